import PyProof.Rows.All
import Wide.All
import OpenK.AllK
import Wide.FinOn
import HandS.ForMost
import HandS.ForExc
import HandS.Flow
import HandS.TryMany
import HandS.ExcInit
import HandS.ExcField
import HandS.ExcIs
import HandS.CallSlots
import HandS.IsInst
import HandS.Style
import HandS.Wide
import KE.DatumOrd
import KE.KExcIs
import KE.GoesEnum
import HandS.EndBits
import PyProof.ReprBulk
import PyProof.P3Eq
import PySem.Challenge.RW_rimmachines_k42_heaps_fall
set_option Elab.async false
section
set_option Elab.async false
set_option linter.all false
set_option maxRecDepth 100000
set_option maxHeartbeats 4000000
/-! P0: values without references, the environment of a def, what it means that a heap bears them. -/
namespace P0
open PySem PySem.Spec PyProof.Rows L2

inductive Dv where
  | non | bl (b : Bool) | int (i : Int) | str (s : Str) | cl (v : V)
  | lst (xs : List Dv) | tup (xs : List Dv) | rls (xs : List Dv)
  | dct (kvs : List (Key × Dv)) | dcT (kvs : List (List Key × Dv))
  | ins (C : Addr) (fs : List (Str × Dv))

def Ext (F G : Hp) : Prop := ∀ b o, F b = some o → G b = some o
theorem Ext.refl (F : Hp) : Ext F F := fun _ _ h => h
theorem Ext.trans {F G I : Hp} (a : Ext F G) (b : Ext G I) : Ext F I := fun c o h => b c o (a c o h)
theorem Ext.none {F G : Hp} (a : Ext F G) {p : Addr} (h : G p = none) : F p = none := by
  cases e : F p with
  | none => rfl
  | some o => rw [a p o e] at h; cases h
theorem ext_upd {F : Hp} {p : Addr} {o : HO} (h : F p = none) : Ext F (upd F p o) := fun b u e => by
  rw [upd_ne (ne_of_none e h)]; exact e
theorem Rd.ext {F G : Hp} {a : Addr} {u : HO} (e : Ext F G) : Rd F a u → Rd G a u
  | .inl h => .inl (e _ _ h)
  | .inr ⟨o, h⟩ => .inr ⟨o, e _ _ h⟩
theorem SqL.ext {K : PySem.W.Frag} {F G : Hp} {a : Addr} {xs : List V} (e : Ext F G) : SqL K F a xs → SqL K G a xs
  | .inl h => .inl (Rd.ext e h)
  | .inr h => .inr h
theorem SqT.ext {K : PySem.W.Frag} {F G : Hp} {a : Addr} {xs : List V} (e : Ext F G) : SqT K F a xs → SqT K G a xs
  | .inl h => .inl (Rd.ext e h)
  | .inr h => .inr h

mutual
inductive Rep (K : PySem.W.Frag) (F : Hp) : Dv → V → Prop
  | non : Rep K F .non .non
  | bl (b : Bool) : Rep K F (.bl b) (.bl b)
  | int (i : Int) : Rep K F (.int i) (.int i)
  | str (x : Str) : Rep K F (.str x) (.str x)
  | cl (v : V) : Rep K F (.cl v) v
  | lst {a : Addr} {xs : List Dv} {vs : List V} : F a = some (.lst vs) → Reps K F xs vs → Rep K F (.lst xs) (.ref a)
  | rls {a : Addr} {xs : List Dv} {vs : List V} : SqL K F a vs → Reps K F xs vs → Rep K F (.rls xs) (.ref a)
  | tup {a : Addr} {xs : List Dv} {vs : List V} : SqT K F a vs → Reps K F xs vs → Rep K F (.tup xs) (.ref a)
  | dct {a : Addr} {ks : List Key} {xs : List Dv} {vs : List V} : F a = some (.dK (ks.zip vs)) → ks.length = xs.length → Reps K F xs vs → Rep K F (.dct (ks.zip xs)) (.ref a)
  | dcT {a : Addr} {ks : List (List Key)} {xs : List Dv} {vs : List V} : F a = some (.dT (ks.zip vs)) → ks.length = xs.length → Reps K F xs vs → Rep K F (.dcT (ks.zip xs)) (.ref a)
  | ins {a C dx : Addr} {ks : List Str} {xs : List Dv} {vs : List V} : F a = some (.ins C dx (ks.zip vs)) → ks.length = xs.length → Reps K F xs vs → Rep K F (.ins C (ks.zip xs)) (.ref a)
inductive Reps (K : PySem.W.Frag) (F : Hp) : List Dv → List V → Prop
  | nil : Reps K F [] []
  | cons {d : Dv} {v : V} {ds : List Dv} {vs : List V} : Rep K F d v → Reps K F ds vs → Reps K F (d :: ds) (v :: vs)
end

theorem Rep.mono {K : PySem.W.Frag} {F G : Hp} (e : Ext F G) {d : Dv} {v : V} (h : Rep K F d v) : Rep K G d v :=
  Rep.rec (motive_1 := fun d v _ => Rep K G d v) (motive_2 := fun ds vs _ => Reps K G ds vs)
    .non .bl .int .str .cl (fun h _ ih => .lst (e _ _ h) ih) (fun h _ ih => .rls (SqL.ext e h) ih) (fun h _ ih => .tup (SqT.ext e h) ih)
    (fun h l _ ih => .dct (e _ _ h) l ih) (fun h l _ ih => .dcT (e _ _ h) l ih) (fun h l _ ih => .ins (e _ _ h) l ih) .nil (fun _ _ a b => .cons a b) h
theorem Reps.mono {K : PySem.W.Frag} {F G : Hp} (e : Ext F G) : ∀ {ds : List Dv} {vs : List V}, Reps K F ds vs → Reps K G ds vs
  | _, _, .nil => .nil
  | _, _, .cons a b => .cons (a.mono e) (b.mono e)
section
variable {K : PySem.W.Frag} {F : Hp}
theorem Reps.length : ∀ {ds : List Dv} {vs : List V}, Reps K F ds vs → ds.length = vs.length
  | _, _, .nil => rfl
  | _, _, .cons _ b => by rw [List.length_cons, List.length_cons, b.length]
theorem Reps.get : ∀ {ds : List Dv} {vs : List V} {i : Nat} {d : Dv}, Reps K F ds vs → ds[i]? = some d → ∃ v, vs[i]? = some v ∧ Rep K F d v
  | _, _, _, _, .nil, e => by simp at e
  | _, _, 0, _, .cons r _, e => by simp at e; subst e; exact ⟨_, rfl, r⟩
  | _, _, i + 1, d, .cons _ t, e => by
    obtain ⟨u, h1, h2⟩ := Reps.get (i := i) (d := d) t (by simpa using e)
    exact ⟨u, by simpa using h1, h2⟩
theorem Reps.getV : ∀ {ds : List Dv} {vs : List V} {i : Nat} {v : V}, Reps K F ds vs → vs[i]? = some v → ∃ d, ds[i]? = some d ∧ Rep K F d v
  | _, _, _, _, .nil, e => by simp at e
  | _, _, 0, _, .cons r _, e => by simp at e; subst e; exact ⟨_, rfl, r⟩
  | _, _, i + 1, d, .cons _ t, e => by
    obtain ⟨u, h1, h2⟩ := Reps.getV (i := i) (v := d) t (by simpa using e)
    exact ⟨u, by simpa using h1, h2⟩
theorem Reps.append : ∀ {ds es : List Dv} {vs us : List V}, Reps K F ds vs → Reps K F es us → Reps K F (ds ++ es) (vs ++ us)
  | _, _, _, _, .nil, s => s
  | _, _, _, _, .cons r t, s => .cons r (t.append s)
theorem Reps.take : ∀ {ds : List Dv} {vs : List V} (n : Nat), Reps K F ds vs → Reps K F (ds.take n) (vs.take n)
  | _, _, 0, _ => .nil
  | _, _, _ + 1, .nil => .nil
  | _, _, n + 1, .cons r t => .cons r (t.take n)
theorem Reps.drop : ∀ {ds : List Dv} {vs : List V} (n : Nat), Reps K F ds vs → Reps K F (ds.drop n) (vs.drop n)
  | _, _, 0, r => r
  | _, _, _ + 1, .nil => .nil
  | _, _, n + 1, .cons _ t => t.drop n
theorem Reps.set {d : Dv} {v : V} (r : Rep K F d v) : ∀ {ds : List Dv} {vs : List V} (i : Nat), Reps K F ds vs → Reps K F (ds.set i d) (vs.set i v)
  | _, _, _, .nil => .nil
  | _, _, 0, .cons _ t => .cons r t
  | _, _, i + 1, .cons q t => .cons q (t.set r i)
theorem Reps.dropLast : ∀ {ds : List Dv} {vs : List V}, Reps K F ds vs → Reps K F ds.dropLast vs.dropLast
  | _, _, .nil => .nil
  | _, _, .cons _ .nil => .nil
  | _, _, .cons r (.cons q t) => .cons r (Reps.dropLast (.cons q t))
theorem Reps.eraseIdx : ∀ {ds : List Dv} {vs : List V} (i : Nat), Reps K F ds vs → Reps K F (ds.eraseIdx i) (vs.eraseIdx i)
  | _, _, _, .nil => .nil
  | _, _, 0, .cons _ t => t
  | _, _, i + 1, .cons r t => .cons r (t.eraseIdx i)
theorem Reps.reverse : ∀ {ds : List Dv} {vs : List V}, Reps K F ds vs → Reps K F ds.reverse vs.reverse
  | _, _, .nil => .nil
  | _, _, .cons r t => by
    rw [List.reverse_cons, List.reverse_cons]
    exact t.reverse.append (.cons r .nil)
theorem Reps.rep {ds : List Dv} {vs : List V} (h : Reps K F ds vs) : ∀ k : Nat, Reps K F (List.replicate k ds).flatten (List.replicate k vs).flatten
  | 0 => .nil
  | k + 1 => by
    rw [List.replicate_succ, List.replicate_succ, List.flatten_cons, List.flatten_cons]
    exact h.append (h.rep k)
theorem Reps.ints : ∀ (ns : List Int), Reps K F (ns.map Dv.int) (ns.map V.int)
  | [] => .nil
  | n :: ns => .cons (.int n) (Reps.ints ns)
theorem Reps.bls : ∀ (ns : List Bool), Reps K F (ns.map Dv.bl) (ns.map V.bl)
  | [] => .nil
  | n :: ns => .cons (.bl n) (Reps.bls ns)
theorem Reps.strs : ∀ (ns : List Str), Reps K F (ns.map Dv.str) (ns.map V.str)
  | [] => .nil
  | n :: ns => .cons (.str n) (Reps.strs ns)
theorem Reps.ints_inv : ∀ {ns : List Int} {vs : List V}, Reps K F (ns.map Dv.int) vs → vs = ns.map V.int
  | [], _, .nil => rfl
  | n :: ns, _, .cons r t => by cases r; rw [Reps.ints_inv t, List.map_cons]
theorem Reps.bls_inv : ∀ {ns : List Bool} {vs : List V}, Reps K F (ns.map Dv.bl) vs → vs = ns.map V.bl
  | [], _, .nil => rfl
  | n :: ns, _, .cons r t => by cases r; rw [Reps.bls_inv t, List.map_cons]
theorem Reps.strs_inv : ∀ {ns : List Str} {vs : List V}, Reps K F (ns.map Dv.str) vs → vs = ns.map V.str
  | [], _, .nil => rfl
  | n :: ns, _, .cons r t => by cases r; rw [Reps.strs_inv t, List.map_cons]
end

/-! ### mutable things -/
inductive RepO (K : PySem.W.Frag) (F : Hp) : Dv → HO → Prop
  | lst {xs : List Dv} {vs : List V} : Reps K F xs vs → RepO K F (.lst xs) (.lst vs)
  | dct {ks : List Key} {xs : List Dv} {vs : List V} : ks.length = xs.length → Reps K F xs vs → RepO K F (.dct (ks.zip xs)) (.dK (ks.zip vs))
  | dcT {ks : List (List Key)} {xs : List Dv} {vs : List V} : ks.length = xs.length → Reps K F xs vs → RepO K F (.dcT (ks.zip xs)) (.dT (ks.zip vs))
theorem RepO.mono {K : PySem.W.Frag} {F G : Hp} (e : Ext F G) {d : Dv} {o : HO} : RepO K F d o → RepO K G d o
  | .lst h => .lst (h.mono e)
  | .dct l h => .dct l (h.mono e)
  | .dcT l h => .dcT l (h.mono e)
theorem RepO.rep {K : PySem.W.Frag} {F : Hp} {d : Dv} {o : HO} {p : Addr} (h : RepO K F d o) (hp : F p = none) : Rep K (upd F p o) d (.ref p) := by
  cases h with
  | lst h => exact .lst upd_same (h.mono (ext_upd hp))
  | dct l h => exact .dct upd_same l (h.mono (ext_upd hp))
  | dcT l h => exact .dcT upd_same l (h.mono (ext_upd hp))

/-- readable: frozen, or a mutable thing that stands in the heap -/
def Top (K : PySem.W.Frag) (F H : Hp) (d : Dv) (v : V) : Prop := Rep K F d v ∨ ∃ p o, v = .ref p ∧ H p = some o ∧ RepO K F d o

/-! ### trees that a slot owns, parts and all -/
inductive Ot where
  | fz (d : Dv) | lst (xs : List Ot) | tup (xs : List Ot) | dct (kvs : List (Key × Ot))
mutual
def Ot.er : Ot → Dv
  | .fz d => d
  | .lst xs => .lst (Ot.ers xs)
  | .tup xs => .tup (Ot.ers xs)
  | .dct kvs => .dct (Ot.erk kvs)
def Ot.ers : List Ot → List Dv
  | [] => []
  | t :: r => Ot.er t :: Ot.ers r
def Ot.erk : List (Key × Ot) → List (Key × Dv)
  | [] => []
  | (k, t) :: r => (k, Ot.er t) :: Ot.erk r
end
mutual
inductive RepT (K : PySem.W.Frag) (F H : Hp) : Ot → V → List Addr → Prop
  | fz {d : Dv} {v : V} : Rep K F d v → RepT K F H (.fz d) v []
  | lst {a : Addr} {xs : List Ot} {vs : List V} {R : List Addr} : H a = some (.lst vs) → RepTs K F H xs vs R → RepT K F H (.lst xs) (.ref a) (a :: R)
  | tup {a : Addr} {xs : List Ot} {vs : List V} {R : List Addr} : H a = some (.tup vs) → RepTs K F H xs vs R → RepT K F H (.tup xs) (.ref a) (a :: R)
  | dct {a : Addr} {ks : List Key} {xs : List Ot} {vs : List V} {R : List Addr} : H a = some (.dK (ks.zip vs)) → ks.length = xs.length → RepTs K F H xs vs R → RepT K F H (.dct (ks.zip xs)) (.ref a) (a :: R)
inductive RepTs (K : PySem.W.Frag) (F H : Hp) : List Ot → List V → List Addr → Prop
  | nil : RepTs K F H [] [] []
  | cons {d : Ot} {v : V} {ds : List Ot} {vs : List V} {R S : List Addr} : RepT K F H d v R → RepTs K F H ds vs S → RepTs K F H (d :: ds) (v :: vs) (R ++ S)
end
section
variable {K : PySem.W.Frag} {F H : Hp}
theorem RepTs.length : ∀ {ts : List Ot} {vs : List V} {R : List Addr}, RepTs K F H ts vs R → ts.length = vs.length
  | _, _, _, .nil => rfl
  | _, _, _, .cons _ t => by rw [List.length_cons, List.length_cons, t.length]
theorem Ot.ers_length : ∀ (ts : List Ot), (Ot.ers ts).length = ts.length
  | [] => rfl
  | t :: r => by rw [Ot.ers, List.length_cons, List.length_cons, Ot.ers_length r]
theorem Ot.erk_zip : ∀ (ks : List Key) (xs : List Ot), Ot.erk (ks.zip xs) = ks.zip (Ot.ers xs)
  | [], _ => rfl
  | _ :: _, [] => rfl
  | k :: ks, x :: xs => by rw [List.zip_cons_cons, Ot.erk, Ot.ers, List.zip_cons_cons, Ot.erk_zip ks xs]
mutual
theorem RepT.frame {F' H' : Hp} (e : Ext F F') : ∀ {t : Ot} {v : V} {R : List Addr}, RepT K F H t v R → (∀ a ∈ R, H' a = H a) → RepT K F' H' t v R
  | _, _, _, .fz h, _ => .fz (h.mono e)
  | _, _, _, .lst h hs, k => .lst ((k _ List.mem_cons_self).trans h) (RepTs.frame e hs fun a ha => k a (List.mem_cons_of_mem _ ha))
  | _, _, _, .tup h hs, k => .tup ((k _ List.mem_cons_self).trans h) (RepTs.frame e hs fun a ha => k a (List.mem_cons_of_mem _ ha))
  | _, _, _, .dct h l hs, k => .dct ((k _ List.mem_cons_self).trans h) l (RepTs.frame e hs fun a ha => k a (List.mem_cons_of_mem _ ha))
theorem RepTs.frame {F' H' : Hp} (e : Ext F F') : ∀ {ts : List Ot} {vs : List V} {R : List Addr}, RepTs K F H ts vs R → (∀ a ∈ R, H' a = H a) → RepTs K F' H' ts vs R
  | _, _, _, .nil, _ => .nil
  | _, _, _, .cons h hs, k => .cons (RepT.frame e h fun a ha => k a (List.mem_append_left _ ha)) (RepTs.frame e hs fun a ha => k a (List.mem_append_right _ ha))
end
mutual
theorem RepT.there : ∀ {t : Ot} {v : V} {R : List Addr}, RepT K F H t v R → ∀ a ∈ R, H a ≠ none
  | _, _, _, .fz _, _, h => by cases h
  | _, _, _, .lst h hs, a, ha => by
    rcases List.mem_cons.mp ha with rfl | ha
    · rw [h]; exact Option.some_ne_none _
    · exact RepTs.there hs a ha
  | _, _, _, .tup h hs, a, ha => by
    rcases List.mem_cons.mp ha with rfl | ha
    · rw [h]; exact Option.some_ne_none _
    · exact RepTs.there hs a ha
  | _, _, _, .dct h _ hs, a, ha => by
    rcases List.mem_cons.mp ha with rfl | ha
    · rw [h]; exact Option.some_ne_none _
    · exact RepTs.there hs a ha
theorem RepTs.there : ∀ {ts : List Ot} {vs : List V} {R : List Addr}, RepTs K F H ts vs R → ∀ a ∈ R, H a ≠ none
  | _, _, _, .nil, _, h => by cases h
  | _, _, _, .cons h hs, a, ha => by
    rcases List.mem_append.mp ha with ha | ha
    · exact RepT.there h a ha
    · exact RepTs.there hs a ha
end
mutual
/-- all of it frozen -/
theorem RepT.rep {G : Hp} (e : Ext F G) : ∀ {t : Ot} {v : V} {R : List Addr}, RepT K F H t v R → (∀ a ∈ R, G a = H a) → Rep K G t.er v
  | _, _, _, .fz h, _ => h.mono e
  | _, _, _, .lst h hs, k => .lst ((k _ List.mem_cons_self).trans h) (RepTs.rep e hs fun a ha => k a (List.mem_cons_of_mem _ ha))
  | _, _, _, .tup h hs, k => .tup (SqT.of ((k _ List.mem_cons_self).trans h)) (RepTs.rep e hs fun a ha => k a (List.mem_cons_of_mem _ ha))
  | _, _, _, .dct h l hs, k => by
    rw [Ot.er, Ot.erk_zip]
    exact .dct ((k _ List.mem_cons_self).trans h) (by rw [l, Ot.ers_length]) (RepTs.rep e hs fun a ha => k a (List.mem_cons_of_mem _ ha))
theorem RepTs.rep {G : Hp} (e : Ext F G) : ∀ {ts : List Ot} {vs : List V} {R : List Addr}, RepTs K F H ts vs R → (∀ a ∈ R, G a = H a) → Reps K G (Ot.ers ts) vs
  | _, _, _, .nil, _ => .nil
  | _, _, _, .cons h hs, k => .cons (RepT.rep e h fun a ha => k a (List.mem_append_left _ ha)) (RepTs.rep e hs fun a ha => k a (List.mem_append_right _ ha))
end
end

/-! ### the environment -/
inductive Sl where
  | no | val (d : Dv) | mu (io : Bool) (d : Dv)
  /-- the exception that an except suite holds -/
  | exn
  /-- an owned tree -/
  | ot (t : Ot)
abbrev VE := List Sl
structure Er where
  name : Str
  fs : Option (List (Str × Dv))

inductive R (α : Type) where
  | ok (a : α) (ρ : VE) | exc (e : Er) (ρ : VE) | bad
def M (α : Type) := VE → R α
namespace M
def pur {α : Type} (a : α) : M α := fun ρ => .ok a ρ
def bnd {α β : Type} (m : M α) (f : α → M β) : M β := fun ρ => match m ρ with
  | .ok a ρ' => f a ρ'
  | .exc e ρ' => .exc e ρ'
  | .bad => .bad
def bad {α : Type} : M α := fun _ => .bad
def grd (c : Prop) [Decidable c] : M Unit := fun ρ => if c then .ok () ρ else .bad
def opt {α : Type} (o : Option α) : M α := fun ρ => match o with
  | some a => .ok a ρ
  | none => .bad
end M
instance : Monad M where
  pure := M.pur
  bind := M.bnd

def RP {α : Type} (r : R α) (ok : α → VE → Prop) (ex : Er → VE → Prop) : Prop := match r with
  | .ok a ρ => ok a ρ
  | .exc e ρ => ex e ρ
  | .bad => False
theorem RP_bnd {α β : Type} {m : M α} {f : α → M β} {ρ : VE} {ok : β → VE → Prop} {ex : Er → VE → Prop} : RP ((m >>= f) ρ) ok ex = RP (m ρ) (fun a ρ' => RP (f a ρ') ok ex) ex := by
  show RP (M.bnd m f ρ) ok ex = _
  unfold M.bnd
  cases m ρ <;> rfl
theorem RP.imp {α : Type} {r : R α} {ok ok' : α → VE → Prop} {ex ex' : Er → VE → Prop} (h : RP r ok ex) (h1 : ∀ a ρ, ok a ρ → ok' a ρ) (h2 : ∀ e ρ, ex e ρ → ex' e ρ) : RP r ok' ex' := by
  cases r with
  | ok a ρ => exact h1 _ _ h
  | exc e ρ => exact h2 _ _ h
  | bad => exact h
theorem RP_grd {c : Prop} [Decidable c] {ρ : VE} {ok : Unit → VE → Prop} {ex : Er → VE → Prop} (h : RP (M.grd c ρ) ok ex) : c ∧ ok () ρ := by
  unfold M.grd at h
  split at h
  · exact ⟨by assumption, h⟩
  · exact h.elim
theorem RP_opt {α : Type} {o : Option α} {ρ : VE} {ok : α → VE → Prop} {ex : Er → VE → Prop} (h : RP (M.opt o ρ) ok ex) : ∃ a, o = some a ∧ ok a ρ := by
  cases o with
  | none => exact h.elim
  | some a => exact ⟨a, rfl, h⟩
@[simp] theorem run_opt_some {α : Type} (a : α) (ρ : VE) : M.opt (some a) ρ = .ok a ρ := rfl
@[simp] theorem run_opt_none {α : Type} (ρ : VE) : (M.opt none : M α) ρ = .bad := rfl
@[simp] theorem run_pure {α : Type} (a : α) (ρ : VE) : (pure a : M α) ρ = .ok a ρ := rfl
@[simp] theorem run_bind {α β : Type} (m : M α) (f : α → M β) (ρ : VE) : (m >>= f) ρ = match m ρ with
  | .ok a ρ' => f a ρ'
  | .exc e ρ' => .exc e ρ'
  | .bad => .bad := rfl
@[simp] theorem run_grd (c : Prop) [Decidable c] (ρ : VE) : M.grd c ρ = if c then .ok () ρ else .bad := rfl
@[simp] theorem run_bad {α : Type} (ρ : VE) : (M.bad : M α) ρ = .bad := rfl

/-- the entry: its heap, what was frozen, the in-out cells by slot -/
structure Gx where
  H0 : Hp
  F0 : Hp
  ios : List (Nat × Addr)
  /-- what is held beside the slots while a part is reckoned -/
  held : Hp := fun _ => none
  /-- where the exception at hand stands -/
  exa : Option Addr := none

/-- what stands beside is held, too -/
def plus (G F : Hp) : Hp := fun b => match G b with
  | some o => some o
  | none => F b
def one (p : Addr) (o : HO) : Hp := upd (fun _ => none) p o
def cells (R : List Addr) (H : Hp) : Hp := fun b => if b ∈ R then H b else none
theorem plus_one {F : Hp} {p : Addr} {o : HO} : plus (one p o) F = upd F p o := by
  funext b
  unfold plus one
  by_cases h : b = p
  · rw [h, upd_same, upd_same]
  · rw [upd_ne h, upd_ne h]
theorem plus_some {G F : Hp} {b : Addr} {o : HO} (h : G b = some o) : plus G F b = some o := by unfold plus; rw [h]
theorem plus_none {G F : Hp} {b : Addr} (h : G b = none) : plus G F b = F b := by unfold plus; rw [h]
theorem plus_is {G F : Hp} {b : Addr} (h : plus G F b = none) : G b = none ∧ F b = none := by
  cases e : G b with
  | none => rw [plus_none e] at h; exact ⟨rfl, h⟩
  | some o => rw [plus_some e] at h; cases h
theorem plus_or {G F : Hp} {b : Addr} {o : HO} (h : plus G F b = some o) : G b = some o ∨ (G b = none ∧ F b = some o) := by
  cases e : G b with
  | none => rw [plus_none e] at h; exact .inr ⟨rfl, h⟩
  | some u => rw [plus_some e] at h; exact .inl h
theorem one_ne {p b : Addr} {o : HO} (h : b ≠ p) : one p o b = none := upd_ne h
theorem one_same {p : Addr} {o : HO} : one p o p = some o := upd_same
theorem ext_plus {G F : Hp} (h : ∀ b o, G b = some o → F b = none) : Ext F (plus G F) := fun b o e => by
  cases q : G b with
  | none => rw [plus_none q]; exact e
  | some u => rw [h b u q] at e; cases e

/-- slot i, its value x, what it owns -/
def SlOk (K : PySem.W.Frag) (g : Gx) (F H : Hp) (i : Nat) : Sl → Option V → List Addr → Prop
  | .no, _, R => R = []
  | .val d, x, R => (∃ v, x = some v ∧ Rep K F d v) ∧ R = []
  | .mu b d, x, R => ∃ p o, x = some (.ref p) ∧ H p = some o ∧ RepO K F d o ∧ R = [p] ∧ (b = true → (i, p) ∈ g.ios) ∧ (b = false → g.H0 p = none)
  | .exn, x, R => (∃ a, g.exa = some a ∧ x = some (.ref a)) ∧ R = []
  | .ot t, x, R => ∃ v, x = some v ∧ RepT K F H t v R ∧ ∀ a ∈ R, g.H0 a = none
structure Own (K : PySem.W.Frag) (g : Gx) (F H : Hp) (ρ : VE) (σ : L2.St) (Rs : List (List Addr)) : Prop where
  len : ρ.length = σ.length
  lenR : ρ.length = Rs.length
  ok : ∀ (i : Nat) (s : Sl) (x : Option V) (R : List Addr), ρ[i]? = some s → σ[i]? = some x → Rs[i]? = some R → SlOk K g F H i s x R
  nd : ∀ (i : Nat) (R : List Addr), Rs[i]? = some R → R.Nodup
  dis : ∀ (i j : Nat) (R S : List Addr), i ≠ j → Rs[i]? = some R → Rs[j]? = some S → ∀ a ∈ R, a ∉ S
  out : ∀ (i : Nat) (R : List Addr), Rs[i]? = some R → ∀ a ∈ R, F a = none ∧ g.held a = none ∧ (g.H0 a = none ∨ (i, a) ∈ g.ios)
  hel : ∀ b o, g.held b = some o → H b = some o ∧ F b = none
structure Rel (K : PySem.W.Frag) (g : Gx) (F : Hp) (ρ : VE) (σ : L2.St) (H : Hp) : Prop where
  ext : Ext F H
  f0 : Ext g.F0 F
  new : ∀ b, F b ≠ none → g.F0 b ≠ none ∨ g.H0 b = none
  keep : ∀ b o, g.H0 b = some o → (∀ i, (i, b) ∉ g.ios) → H b = some o
  dom : ∀ b, g.H0 b ≠ none → H b ≠ none
  io : ∀ (i : Nat) (p : Addr), (i, p) ∈ g.ios → σ[i]? = some (some (V.ref p)) ∧ ∃ d, ρ[i]? = some (Sl.mu true d)
  own : ∃ Rs, Own K g F H ρ σ Rs

/-- an expression's value: frozen, fresh, the thing of a slot, an owned tree -/
inductive RV where
  | d (d : Dv) | fr (d : Dv) | bor (i : Nat) | ow (t : Ot)
def Gx.hold (g : Gx) (G : Hp) : Gx := { g with held := plus G g.held }
def RvOk (K : PySem.W.Frag) (g : Gx) (F : Hp) (ρ : VE) (σ : L2.St) (H : Hp) : RV → V → Prop
  | .d d, v => Rep K F d v
  | .fr d, v => ∃ p o, v = .ref p ∧ RepO K F d o ∧ g.H0 p = none ∧ g.held p = none ∧ Rel K (g.hold (one p o)) F ρ σ H
  | .bor i, v => σ[i]? = some (some v)
  | .ow t, v => ∃ R, RepT K F H t v R ∧ R.Nodup ∧ (∀ a ∈ R, g.H0 a = none ∧ g.held a = none) ∧ Rel K (g.hold (cells R H)) F ρ σ H

section
variable {K : PySem.W.Frag} {g : Gx} {F H F' H' G : Hp} {ρ : VE} {σ : L2.St} {Rs : List (List Addr)} {p : Addr} {o : HO} {d : Dv} {i : Nat} {s : Sl} {x : Option V} {R : List Addr}
theorem SlOk.there (h : SlOk K g F H i s x R) : ∀ a ∈ R, H a ≠ none := by
  cases s with
  | no => obtain rfl := h; intro a ha; cases ha
  | val d => obtain ⟨_, rfl⟩ := h; intro a ha; cases ha
  | exn => obtain ⟨_, rfl⟩ := h; intro a ha; cases ha
  | mu b d =>
    obtain ⟨p, o, _, h2, _, rfl, _⟩ := h
    intro a ha
    rw [List.mem_singleton.mp ha, h2]; exact Option.some_ne_none _
  | ot t => obtain ⟨v, _, h2, _⟩ := h; exact h2.there
theorem SlOk.frame (e : Ext F F') (k : ∀ a ∈ R, H' a = H a) (h : SlOk K g F H i s x R) : SlOk K g F' H' i s x R := by
  cases s with
  | no => exact h
  | val d => obtain ⟨⟨v, h1, h2⟩, h3⟩ := h; exact ⟨⟨v, h1, h2.mono e⟩, h3⟩
  | exn => exact h
  | mu b d =>
    obtain ⟨p, o, h1, h2, h3, rfl, h4, h5⟩ := h
    exact ⟨p, o, h1, (k p List.mem_cons_self).trans h2, h3.mono e, rfl, h4, h5⟩
  | ot t => obtain ⟨v, h1, h2, h3⟩ := h; exact ⟨v, h1, h2.frame e k, h3⟩
theorem SlOk.reg {g' : Gx} (h1 : g'.ios = g.ios) (h2 : g'.H0 = g.H0) (h3 : g'.exa = g.exa) (h : SlOk K g F H i s x R) : SlOk K g' F H i s x R := by
  cases s with
  | no => exact h
  | val d => exact h
  | exn => unfold SlOk at h ⊢; rw [h3]; exact h
  | mu b d => unfold SlOk at h ⊢; rw [h1, h2]; exact h
  | ot t => unfold SlOk at h ⊢; rw [h2]; exact h
theorem nodup1 {α : Type} (p : α) : [p].Nodup := List.nodup_cons.mpr ⟨List.not_mem_nil, List.nodup_nil⟩
theorem lt_of_get {α : Type} {l : List α} {i : Nat} {x : α} (h : l[i]? = some x) : i < l.length := by
  rcases Nat.lt_or_ge i l.length with y | y
  · exact y
  · rw [List.getElem?_eq_none y] at h; cases h
theorem get_ex {α : Type} {l : List α} {i : Nat} (h : i < l.length) : ∃ x, l[i]? = some x := ⟨_, List.getElem?_eq_getElem h⟩
theorem get_set {α : Type} {l : List α} {i j : Nat} {x y : α} (h : (l.set i x)[j]? = some y) : (i = j ∧ y = x) ∨ (i ≠ j ∧ l[j]? = some y) := by
  by_cases z : i = j
  · subst z
    rw [List.getElem?_set_self (by have := lt_of_get h; rwa [List.length_set] at this)] at h
    exact .inl ⟨rfl, (Option.some.inj h).symm⟩
  · rw [List.getElem?_set_ne z] at h
    exact .inr ⟨z, h⟩
namespace Own
theorem at' (h : Own K g F H ρ σ Rs) (hi : ρ[i]? = some s) : ∃ x R, σ[i]? = some x ∧ Rs[i]? = some R ∧ SlOk K g F H i s x R := by
  have l := lt_of_get hi
  obtain ⟨x, hx⟩ := get_ex (l := σ) (i := i) (by rw [← h.len]; exact l)
  obtain ⟨R, hR⟩ := get_ex (l := Rs) (i := i) (by rw [← h.lenR]; exact l)
  exact ⟨x, R, hx, hR, h.ok i s x R hi hx hR⟩
theorem ok' (h : Own K g F H ρ σ Rs) (hR : Rs[i]? = some R) : ∃ s x, ρ[i]? = some s ∧ σ[i]? = some x ∧ SlOk K g F H i s x R := by
  have l := lt_of_get hR
  obtain ⟨s, hs⟩ := get_ex (l := ρ) (i := i) (by rw [h.lenR]; exact l)
  obtain ⟨x, hx⟩ := get_ex (l := σ) (i := i) (by rw [← h.len, h.lenR]; exact l)
  exact ⟨s, x, hs, hx, h.ok i s x R hs hx hR⟩
theorem there (h : Own K g F H ρ σ Rs) (hR : Rs[i]? = some R) {a : Addr} (ha : a ∈ R) : H a ≠ none := by
  obtain ⟨s, x, _, _, k⟩ := h.ok' hR
  exact k.there a ha
theorem frame (h : Own K g F H ρ σ Rs) (e : Ext F F') (hH : ∀ (i : Nat) (R : List Addr), Rs[i]? = some R → ∀ a ∈ R, H' a = H a) (hF : ∀ (i : Nat) (R : List Addr), Rs[i]? = some R → ∀ a ∈ R, F' a = none) (hl : ∀ b o, g.held b = some o → H' b = some o ∧ F' b = none) : Own K g F' H' ρ σ Rs where
  len := h.len
  lenR := h.lenR
  ok := fun i s x R h1 h2 h3 => (h.ok i s x R h1 h2 h3).frame e (hH i R h3)
  nd := h.nd
  dis := h.dis
  out := fun i R hR a ha => ⟨hF i R hR a ha, (h.out i R hR a ha).2⟩
  hel := hl
theorem set (h : Own K g F H ρ σ Rs) (i : Nat) {s' : Sl} {x' : Option V} {R' : List Addr} (ok' : SlOk K g F H i s' x' R') (nd' : R'.Nodup) (dis' : ∀ (j : Nat) (R : List Addr), i ≠ j → Rs[j]? = some R → ∀ a ∈ R', a ∉ R)
    (out' : ∀ a ∈ R', F a = none ∧ g.held a = none ∧ (g.H0 a = none ∨ (i, a) ∈ g.ios)) : Own K g F H (ρ.set i s') (σ.set i x') (Rs.set i R') where
  len := by rw [List.length_set, List.length_set]; exact h.len
  lenR := by rw [List.length_set, List.length_set]; exact h.lenR
  ok := fun j s x R h1 h2 h3 => by
    rcases get_set h1 with ⟨rfl, rfl⟩ | ⟨z, h1⟩
    · rcases get_set h2 with ⟨_, rfl⟩ | ⟨z, _⟩
      · rcases get_set h3 with ⟨_, rfl⟩ | ⟨z, _⟩
        · exact ok'
        · exact absurd rfl z
      · exact absurd rfl z
    · rw [List.getElem?_set_ne z] at h2 h3
      exact h.ok j s x R h1 h2 h3
  nd := fun j R hR => by
    rcases get_set hR with ⟨rfl, rfl⟩ | ⟨z, hR⟩
    · exact nd'
    · exact h.nd j R hR
  dis := fun j k R S hjk hR hS a ha hb => by
    rcases get_set hR with ⟨z, y⟩ | ⟨z, hR'⟩
    · subst z; subst y
      rw [List.getElem?_set_ne hjk] at hS
      exact dis' k S hjk hS a ha hb
    · rcases get_set hS with ⟨z', y⟩ | ⟨z', hS'⟩
      · subst y
        exact dis' j R z hR' a hb ha
      · exact h.dis j k R S hjk hR' hS' a ha hb
  out := fun j R hR a ha => by
    rcases get_set hR with ⟨rfl, rfl⟩ | ⟨z, hR⟩
    · exact out' a ha
    · exact h.out j R hR a ha
  hel := h.hel
/-- slot i owns nothing any more -/
theorem drop (h : Own K g F H ρ σ Rs) (i : Nat) : Own K g F H (ρ.set i .no) σ (Rs.set i []) where
  len := by rw [List.length_set]; exact h.len
  lenR := by rw [List.length_set, List.length_set]; exact h.lenR
  ok := fun j s x R h1 h2 h3 => by
    rcases get_set h1 with ⟨rfl, rfl⟩ | ⟨z, h1⟩
    · rcases get_set h3 with ⟨_, rfl⟩ | ⟨z, _⟩
      · rfl
      · exact absurd rfl z
    · rw [List.getElem?_set_ne z] at h3
      exact h.ok j s x R h1 h2 h3
  nd := fun j R hR => by
    rcases get_set hR with ⟨rfl, rfl⟩ | ⟨z, hR⟩
    · exact List.nodup_nil
    · exact h.nd j R hR
  dis := fun j k R S hjk hR hS a ha hb => by
    rcases get_set hR with ⟨_, y⟩ | ⟨z, hR'⟩
    · subst y; cases ha
    · rcases get_set hS with ⟨_, y⟩ | ⟨z', hS'⟩
      · subst y; cases hb
      · exact h.dis j k R S hjk hR' hS' a ha hb
  out := fun j R hR a ha => by
    rcases get_set hR with ⟨rfl, rfl⟩ | ⟨z, hR⟩
    · cases ha
    · exact h.out j R hR a ha
  hel := h.hel
/-- less is held -/
theorem unhold (h : Own K (g.hold G) F H ρ σ Rs) (hG : ∀ b o, G b = some o → g.held b = none) : Own K g F H ρ σ Rs where
  len := h.len
  lenR := h.lenR
  ok := fun i s x R h1 h2 h3 => (h.ok i s x R h1 h2 h3).reg rfl rfl rfl
  nd := h.nd
  dis := h.dis
  out := fun i R hR a ha => by
    obtain ⟨h1, h2, h3⟩ := h.out i R hR a ha
    exact ⟨h1, (plus_is h2).2, h3⟩
  hel := fun b o e => h.hel b o (by
    show plus G g.held b = some o
    cases q : G b with
    | none => rw [plus_none q]; exact e
    | some u => rw [hG b u q] at e; cases e)
/-- more is held -/
theorem hold (h : Own K g F H ρ σ Rs) (h1 : ∀ b o, G b = some o → H b = some o ∧ F b = none) (h2 : ∀ (i : Nat) (R : List Addr), Rs[i]? = some R → ∀ a ∈ R, G a = none) : Own K (g.hold G) F H ρ σ Rs where
  len := h.len
  lenR := h.lenR
  ok := fun i s x R k1 k2 k3 => (h.ok i s x R k1 k2 k3).reg rfl rfl rfl
  nd := h.nd
  dis := h.dis
  out := fun i R hR a ha => by
    obtain ⟨k1, k2, k3⟩ := h.out i R hR a ha
    exact ⟨k1, by show plus G g.held a = none; rw [plus_none (h2 i R hR a ha)]; exact k2, k3⟩
  hel := fun b o e => by
    rcases plus_or (show plus G g.held b = some o from e) with e | ⟨_, e⟩
    · exact h1 b o e
    · exact h.hel b o e
end Own

/-! ### what it tells of the slots -/
theorem Rel.len (r : Rel K g F ρ σ H) : ρ.length = σ.length := let ⟨_, h⟩ := r.own; h.len
theorem Rel.val (r : Rel K g F ρ σ H) (i : Nat) (d : Dv) (h : ρ[i]? = some (Sl.val d)) : ∃ v, σ[i]? = some (some v) ∧ Rep K F d v := by
  obtain ⟨Rs, w⟩ := r.own
  obtain ⟨x, R, h1, _, ⟨v, rfl, h3⟩, _⟩ := w.at' h
  exact ⟨v, h1, h3⟩
theorem Rel.mu (r : Rel K g F ρ σ H) (i : Nat) (b : Bool) (d : Dv) (h : ρ[i]? = some (Sl.mu b d)) : ∃ p o, σ[i]? = some (some (V.ref p)) ∧ F p = none ∧ H p = some o ∧ RepO K F d o ∧ (b = false → g.H0 p = none) := by
  obtain ⟨Rs, w⟩ := r.own
  obtain ⟨x, R, h1, h2, p, o, rfl, h4, h5, rfl, h6, h7⟩ := w.at' h
  exact ⟨p, o, h1, (w.out i _ h2 p List.mem_cons_self).1, h4, h5, h7⟩
theorem Rel.exs (r : Rel K g F ρ σ H) (i : Nat) (h : ρ[i]? = some Sl.exn) : ∃ a, g.exa = some a ∧ σ[i]? = some (some (V.ref a)) := by
  obtain ⟨Rs, w⟩ := r.own
  obtain ⟨x, R, h1, _, ⟨a, h2, rfl⟩, _⟩ := w.at' h
  exact ⟨a, h2, h1⟩
theorem Rel.lt (r : Rel K g F ρ σ H) {s : Sl} (h : ρ[i]? = some s) : i < ρ.length := lt_of_get h
theorem Rel.freeH0 (r : Rel K g F ρ σ H) (h : H p = none) : g.H0 p = none := by
  cases e : g.H0 p with
  | none => rfl
  | some u => exact absurd h (r.dom p (by rw [e]; exact Option.some_ne_none u))
theorem Rel.noHeld (r : Rel K g F ρ σ H) (h : H p = none) : g.held p = none := by
  obtain ⟨Rs, w⟩ := r.own
  cases e : g.held p with
  | none => rfl
  | some u =>
    have z := (w.hel p u e).1
    rw [h] at z; cases z

/-! ### what is done to it -/
/-- a new object is laid and held -/
theorem Rel.allocH (r : Rel K g F ρ σ H) (h : H p = none) : Rel K (g.hold (one p o)) F ρ σ (upd H p o) where
  ext := fun b u e => by rw [upd_ne (ne_of_none (r.ext b u e) h)]; exact r.ext b u e
  f0 := r.f0
  new := r.new
  keep := fun b u e n => by rw [upd_ne (ne_of_none (r.keep b u e n) h)]; exact r.keep b u e n
  dom := fun b e => by
    by_cases z : b = p
    · rw [z, upd_same]; exact Option.some_ne_none _
    · rw [upd_ne z]; exact r.dom b e
  io := r.io
  own := by
    obtain ⟨Rs, w⟩ := r.own
    have nin : ∀ (i : Nat) (R : List Addr), Rs[i]? = some R → ∀ a ∈ R, a ≠ p := fun i R hR a ha z => w.there hR ha (by rw [z]; exact h)
    refine ⟨Rs, (w.frame (Ext.refl F) (fun i R hR a ha => upd_ne (nin i R hR a ha)) (fun i R hR a ha => (w.out i R hR a ha).1) fun b u e => ?_).hold (fun b u e => ?_) fun i R hR a ha => one_ne (nin i R hR a ha)⟩
    · obtain ⟨a1, a2⟩ := w.hel b u e
      exact ⟨by rw [upd_ne (ne_of_none a1 h)]; exact a1, a2⟩
    · by_cases z : b = p
      · subst z
        rw [one_same] at e; cases e
        exact ⟨upd_same, r.ext.none h⟩
      · rw [one_ne z] at e; cases e
theorem Rel.unhold (r : Rel K (g.hold G) F ρ σ H) (hG : ∀ b o, G b = some o → g.held b = none) : Rel K g F ρ σ H where
  ext := r.ext
  f0 := r.f0
  new := r.new
  keep := r.keep
  dom := r.dom
  io := r.io
  own := let ⟨Rs, w⟩ := r.own; ⟨Rs, w.unhold hG⟩
theorem one_held (nh : g.held p = none) : ∀ b u, one p o b = some u → g.held b = none := fun b u e => by
  by_cases z : b = p
  · rw [z]; exact nh
  · rw [one_ne z] at e; cases e
theorem Rel.alloc (r : Rel K g F ρ σ H) (h : H p = none) : Rel K g F ρ σ (upd H p o) := (r.allocH h).unhold (one_held (r.noHeld h))
theorem Rel.fresh (r : Rel K g F ρ σ H) (h : H p = none) (ho : RepO K F d o) : RvOk K g F ρ σ (upd H p o) (.fr d) (.ref p) :=
  ⟨p, o, rfl, ho, r.freeH0 h, r.noHeld h, r.allocH h⟩
/-- what is held is frozen -/
theorem Rel.freezeG (r : Rel K (g.hold G) F ρ σ H) (h0 : ∀ b o, G b = some o → g.H0 b = none ∧ g.held b = none) : Rel K g (plus G F) ρ σ H := by
  obtain ⟨Rs, w⟩ := r.own
  have hl : ∀ b o, G b = some o → H b = some o ∧ F b = none := fun b o e => w.hel b o (plus_some e)
  have eF : Ext F (plus G F) := ext_plus fun b o e => (hl b o e).2
  refine { ext := fun b u e => ?_, f0 := r.f0.trans eF, new := fun b e => ?_, keep := r.keep, dom := r.dom, io := r.io, own := ⟨Rs, ?_⟩ }
  · rcases plus_or e with e | ⟨_, e⟩
    · exact (hl b u e).1
    · exact r.ext b u e
  · cases q : G b with
    | some u => exact .inr (h0 b u q).1
    | none => rw [plus_none q] at e; exact r.new b e
  · have w' := w.unhold fun b o e => (h0 b o e).2
    refine w'.frame eF (fun _ _ _ _ _ => rfl) (fun i R hR a ha => ?_) fun b o e => ⟨(w'.hel b o e).1, ?_⟩
    · have k := w.out i R hR a ha
      rw [plus_none (plus_is k.2.1).1]; exact k.1
    · cases q : G b with
      | none => rw [plus_none q]; exact (w'.hel b o e).2
      | some u => rw [(h0 b u q).2] at e; cases e
theorem Rel.freeze (r : Rel K (g.hold (one p o)) F ρ σ H) (h0 : g.H0 p = none) (nh : g.held p = none) : Rel K g (upd F p o) ρ σ H := by
  rw [← plus_one]
  refine r.freezeG fun b u e => ?_
  by_cases z : b = p
  · rw [z]; exact ⟨h0, nh⟩
  · rw [one_ne z] at e; cases e
theorem Rel.heldAt (r : Rel K (g.hold (one p o)) F ρ σ H) : H p = some o ∧ F p = none := let ⟨_, w⟩ := r.own; w.hel p o (plus_some one_same)
/-- a held thing is written -/
theorem Rel.writeH {o' : HO} (r : Rel K (g.hold (one p o)) F ρ σ H) (h0 : g.H0 p = none) (nh : g.held p = none) : Rel K (g.hold (one p o')) F ρ σ (upd H p o') := by
  obtain ⟨hp, hF⟩ := r.heldAt
  obtain ⟨Rs, w⟩ := r.own
  have nin : ∀ (i : Nat) (R : List Addr), Rs[i]? = some R → ∀ a ∈ R, a ≠ p := fun i R hR a ha z => by
    have k := (plus_is (w.out i R hR a ha).2.1).1
    rw [z, one_same] at k; cases k
  refine { ext := fun b u e => by rw [upd_ne (ne_of_none e hF)]; exact r.ext b u e, f0 := r.f0, new := r.new, keep := fun b u e n => by rw [upd_ne (ne_of_none e h0)]; exact r.keep b u e n, dom := fun b e => ?_, io := r.io, own := ⟨Rs, ?_⟩ }
  · by_cases z : b = p
    · rw [z, upd_same]; exact Option.some_ne_none _
    · rw [upd_ne z]; exact r.dom b e
  · have w' := w.unhold (one_held nh)
    refine (w'.frame (Ext.refl F) (fun i R hR a ha => upd_ne (nin i R hR a ha)) (fun i R hR a ha => (w'.out i R hR a ha).1) fun b u e => ?_).hold (fun b u e => ?_) fun i R hR a ha => one_ne (nin i R hR a ha)
    · obtain ⟨a1, a2⟩ := w'.hel b u e
      exact ⟨by rw [upd_ne (ne_of_none e nh)]; exact a1, a2⟩
    · by_cases z : b = p
      · subst z
        rw [one_same] at e; cases e
        exact ⟨upd_same, hF⟩
      · rw [one_ne z] at e; cases e
theorem cells_mem {b : Addr} {u : HO} (h : cells R H b = some u) : b ∈ R := by
  unfold cells at h
  split at h
  · assumption
  · cases h
theorem cells_in {b : Addr} (h : b ∈ R) : cells R H b = H b := if_pos h
theorem cells_out {b : Addr} (h : b ∉ R) : cells R H b = none := if_neg h
theorem cells_at {b : Addr} {u : HO} (h : b ∈ R) (e : H b = some u) : cells R H b = some u := (cells_in h).trans e
theorem Rel.extG (r : Rel K (g.hold G) F ρ σ H) : Ext F (plus G F) := ext_plus fun b o e => let ⟨_, w⟩ := r.own; (w.hel b o (plus_some e)).2
theorem Rel.freezeC {t : Ot} {v : V} (r : Rel K (g.hold (cells R H)) F ρ σ H) (_ : RepT K F H t v R) (h3 : ∀ a ∈ R, g.H0 a = none ∧ g.held a = none) : Rel K g (plus (cells R H) F) ρ σ H := r.freezeG fun b _ e => h3 b (cells_mem e)
theorem Rel.repC {t : Ot} {v : V} (r : Rel K (g.hold (cells R H)) F ρ σ H) (h : RepT K F H t v R) : Rep K (plus (cells R H) F) t.er v := h.rep r.extG fun a ha => by
  obtain ⟨u, q⟩ := Option.ne_none_iff_exists'.mp (h.there a ha)
  rw [plus_some (cells_at ha q), q]
theorem Rel.offC {t : Ot} {v : V} (r : Rel K (g.hold (cells R H)) F ρ σ H) (h : RepT K F H t v R) : ∀ a ∈ R, F a = none := fun a ha => by
  obtain ⟨u, q⟩ := Option.ne_none_iff_exists'.mp (h.there a ha)
  obtain ⟨_, w⟩ := r.own
  exact (w.hel a u (plus_some (cells_at ha q))).2
end
end P0
end
section
set_option Elab.async false
set_option linter.all false
set_option maxRecDepth 100000
set_option maxHeartbeats 4000000
/-! P0, the judgements: an expression, a test, arguments, a statement, each with what it does in the environment. -/
namespace P0
open PySem PySem.Spec L2

inductive AV where
  | d (d : Dv) | bor (i : Nat)
def AvOk (K : PySem.W.Frag) (F : Hp) (σ : L2.St) : AV → V → Prop
  | .d d, v => Rep K F d v
  | .bor i, v => σ[i]? = some (some v)
theorem AvOk.mono {K : PySem.W.Frag} {F G : Hp} {σ : L2.St} (e : Ext F G) : ∀ {a : AV} {v : V}, AvOk K F σ a v → AvOk K G σ a v
  | .d _, _, h => Rep.mono e h
  | .bor _, _, h => h
def ErOk (K : PySem.W.Frag) (mg : Str → Option Value) (F : Hp) (er : Er) (cls : Value) (d : Option Addr) : Prop :=
  ∃ C, mg er.name = some (.ref C) ∧ cls = .ref C ∧ match er.fs with
    | none => d = none
    | some fs => ∃ dd ks xs vs, d = some dd ∧ fs = List.zip ks xs ∧ ks.length = xs.length ∧ F dd = some (.xd (List.zip ks vs)) ∧ Reps K F xs vs
/-- what is wished of an exception; what is known of the entry -/
structure Wh where
  w : WX
  p : Gx → Prop := fun _ => True
theorem ErOk.mono {K : PySem.W.Frag} {mg : Str → Option Value} {F G : Hp} {er : Er} {cls : Value} {d : Option Addr} (e : Ext F G) (h : ErOk K mg F er cls d) : ErOk K mg G er cls d := by
  obtain ⟨C, h1, h2, h3⟩ := h
  refine ⟨C, h1, h2, ?_⟩
  cases q : er.fs with
  | none => rw [q] at h3; exact h3
  | some fs =>
    rw [q] at h3
    obtain ⟨dd, ks, xs, vs, a1, a2, a3, a4, a5⟩ := h3
    exact ⟨dd, ks, xs, vs, a1, a2, a3, e _ _ a4, a5.mono e⟩
section
variable (X : Cx) (g : Gx) (F : Hp) (σ : L2.St)
def okE (Q : VK) (rv : RV) (ρ' : VE) : Prop := ∀ v F' H', Ext F F' → Rel X.K g F' ρ' σ H' → RvOk X.K g F' ρ' σ H' rv v → Q v H'
def okF (Q : VK) (av : AV) (ρ' : VE) : Prop := ∀ v F' H', Ext F F' → Rel X.K g F' ρ' σ H' → AvOk X.K F' σ av v → Q v H'
def okT (Q : Bool → Hp → Prop) (b : Bool) (ρ' : VE) : Prop := ∀ F' H', Ext F F' → Rel X.K g F' ρ' σ H' → Q b H'
def okA (Q : List V → Hp → Prop) (as : List AV) (ρ' : VE) : Prop := ∀ vs F' H', Ext F F' → Rel X.K g F' ρ' σ H' → Paired (AvOk X.K F' σ) as vs → Q vs H'
def exE (W : Wh) (er : Er) (ρ' : VE) : Prop := ∀ cls d σ' F' H', Ext F F' → Rel X.K g F' ρ' σ' H' → ErOk X.K X.mg F' er cls d → W.w cls d σ' H'
end
structure SE (X : Cx) (W : Wh) (e : Expr) (m : M RV) : Prop where
  ex : ∃ t, PE X e t ∧ ∀ g, W.p g → ∀ F ρ σ H Q, Rel X.K g F ρ σ H → RP (m ρ) (okE X g F σ Q) (exE X g F W) → t σ H Q
structure SF (X : Cx) (W : Wh) (e : Expr) (m : M AV) : Prop where
  ex : ∃ t, PE X e t ∧ ∀ g, W.p g → ∀ F ρ σ H Q, Rel X.K g F ρ σ H → RP (m ρ) (okF X g F σ Q) (exE X g F W) → t σ H Q
structure STt (X : Cx) (W : Wh) (e : Expr) (m : M Bool) : Prop where
  ex : ∃ t, PT X e t ∧ ∀ g, W.p g → ∀ F ρ σ H Q, Rel X.K g F ρ σ H → RP (m ρ) (okT X g F σ Q) (exE X g F W) → t σ H Q
structure SW (X : Cx) (W : Wh) (e : Expr) (m : M Bool) : Prop where
  ex : ∃ t, PW X e t ∧ ∀ g, W.p g → ∀ F ρ σ H Q, Rel X.K g F ρ σ H → RP (m ρ) (okT X g F σ Q) (exE X g F W) → t σ H Q
structure SA (X : Cx) (W : Wh) (es : List Expr) (m : M (List AV)) : Prop where
  ex : ∃ t, PA X es t ∧ ∀ g, W.p g → ∀ F ρ σ H Q, Rel X.K g F ρ σ H → RP (m ρ) (okA X g F σ Q) (exE X g F W) → t σ H Q
inductive Fl where
  | nx | bk | ct | rt (rv : RV)
section
variable (X : Cx) (g : Gx) (F : Hp)
def okS (D : Ends) (f : Fl) (ρ' : VE) : Prop := ∀ σ' F' H', Ext F F' → Rel X.K g F' ρ' σ' H' → match f with
  | .nx => D.nx σ' H'
  | .bk => D.bk σ' H'
  | .ct => D.ct σ' H'
  | .rt rv => ∀ v, RvOk X.K g F' ρ' σ' H' rv v → D.rt v H'
/-- a target: the slots may have turned -/
def okG (Q : L2.St → Hp → Prop) (_ : Unit) (ρ' : VE) : Prop := ∀ σ' F' H', Ext F F' → Rel X.K g F' ρ' σ' H' → Q σ' H'
end
structure SS (X : Cx) (W : Wh) (st : Stmt) (m : M Fl) : Prop where
  ex : ∃ t, PS X st t ∧ ∀ g, W.p g → ∀ F ρ σ H D, Rel X.K g F ρ σ H → RP (m ρ) (okS X g F D) (exE X g F W) → t D σ H
structure SSs (X : Cx) (W : Wh) (st : List Stmt) (m : M Fl) : Prop where
  ex : ∃ t, PSs X st t ∧ ∀ g, W.p g → ∀ F ρ σ H D, Rel X.K g F ρ σ H → RP (m ρ) (okS X g F D) (exE X g F W) → t D σ H

section
variable {X : Cx} {W : Wh} {e : Expr} {g : Gx} {F G : Hp} {σ : L2.St}
theorem exE.ext {er : Er} {ρ : VE} (h : exE X g F W er ρ) (e : Ext F G) : exE X g G W er ρ := fun cls d σ' F' H' a b c => h cls d σ' F' H' (e.trans a) b c
theorem okE.ext {Q : VK} {rv : RV} {ρ : VE} (h : okE X g F σ Q rv ρ) (e : Ext F G) : okE X g G σ Q rv ρ := fun v F' H' a b c => h v F' H' (e.trans a) b c
theorem okF.ext {Q : VK} {rv : AV} {ρ : VE} (h : okF X g F σ Q rv ρ) (e : Ext F G) : okF X g G σ Q rv ρ := fun v F' H' a b c => h v F' H' (e.trans a) b c
theorem okT.ext {Q : Bool → Hp → Prop} {b : Bool} {ρ : VE} (h : okT X g F σ Q b ρ) (e : Ext F G) : okT X g G σ Q b ρ := fun F' H' a b => h F' H' (e.trans a) b
theorem okA.ext {Q : List V → Hp → Prop} {b : List AV} {ρ : VE} (h : okA X g F σ Q b ρ) (e : Ext F G) : okA X g G σ Q b ρ := fun vs F' H' a b c => h vs F' H' (e.trans a) b c
theorem okS.ext {D : Ends} {f : Fl} {ρ : VE} (h : okS X g F D f ρ) (e : Ext F G) : okS X g G D f ρ := fun σ' F' H' a b => h σ' F' H' (e.trans a) b
theorem okG.ext {Q : L2.St → Hp → Prop} {u : Unit} {ρ : VE} (h : okG X g F Q u ρ) (e : Ext F G) : okG X g G Q u ρ := fun σ' F' H' a b => h σ' F' H' (e.trans a) b

/-! ### a value for further use: fresh things are frozen -/
def fz : RV → AV
  | .d d => .d d
  | .fr d => .d d
  | .bor i => .bor i
  | .ow t => .d t.er
def sub (m : M RV) : M AV := do
  let r ← m
  pure (fz r)
theorem okE_of_fz {Q : VK} {rv : RV} {ρ : VE} (h : okF X g F σ Q (fz rv) ρ) : okE X g F σ Q rv ρ := by
  cases rv with
  | d d => exact fun v F' H' a b c => h v F' H' a b c
  | bor i => exact fun v F' H' a b c => h v F' H' a b c
  | fr d =>
    intro v F' H' a b c
    obtain ⟨p, o, rfl, h3, h4, h6, r⟩ := c
    exact h _ _ H' (a.trans (ext_upd r.heldAt.2)) (r.freeze h4 h6) (h3.rep r.heldAt.2)
  | ow t =>
    intro v F' H' a b c
    obtain ⟨R, h1, h2, h3, r⟩ := c
    exact h _ _ H' (a.trans r.extG) (r.freezeC h1 h3) (r.repC h1)
theorem SE.sub {m : M RV} (h : SE X W e m) : SF X W e (sub m) := by
  obtain ⟨t, p, q⟩ := h.ex
  refine ⟨t, p, fun g hp F ρ σ H Q r z => ?_⟩
  refine q g hp F ρ σ H Q r ?_
  unfold P0.sub at z
  rw [RP_bnd] at z
  exact z.imp (fun rv ρ' k => okE_of_fz k) fun _ _ k => k

/-! ### what an operand is -/
def con (a : AV) : M Dv := fun ρ => match a with
  | .d d => .ok d ρ
  | .bor i => match ρ[i]? with
    | some (.mu _ d) => .ok d ρ
    | some (.val d) => .ok d ρ
    | _ => .bad
theorem con_ok {K : PySem.W.Frag} {H : Hp} {ρ : VE} {a : AV} {v : V} {ok : Dv → VE → Prop} {ex : Er → VE → Prop} (r : Rel K g F ρ σ H) (h : AvOk K F σ a v) (z : RP (con a ρ) ok ex) : ∃ d, Top K F H d v ∧ ok d ρ := by
  cases a with
  | d d => exact ⟨d, .inl h, z⟩
  | bor i =>
    unfold con at z
    cases e : ρ[i]? with
    | none => simp only [e] at z; exact z.elim
    | some s =>
      simp only [e] at z
      cases s with
      | no => exact z.elim
      | exn => exact z.elim
      | ot t => exact z.elim
      | val d =>
        obtain ⟨u, h1, h2⟩ := r.val i d e
        have h' : σ[i]? = some (some v) := h
        rw [h'] at h1
        cases h1
        exact ⟨d, .inl h2, z⟩
      | mu b d =>
        obtain ⟨p, o, h1, h2, h3, h4, _⟩ := r.mu i b d e
        have h' : σ[i]? = some (some v) := h
        rw [h'] at h1
        cases h1
        exact ⟨d, .inr ⟨p, o, rfl, h3, h4⟩, z⟩
/-- an operand that may be held by something else from now on: a mutable thing is frozen -/
def ali (a : AV) : M Dv := fun ρ => match a with
  | .d d => .ok d ρ
  | .bor i => match ρ[i]? with
    | some (.mu false d) => .ok d (ρ.set i (.val d))
    | some (.ot t) => .ok t.er (ρ.set i (.val t.er))
    | some (.val d) => .ok d ρ
    | _ => .bad
section
variable {K : PySem.W.Frag} {H : Hp} {ρ : VE} {i : Nat} {d : Dv} {p : Addr} {o : HO} {R : List Addr}
theorem set_self {α : Type} {σ : List α} {i : Nat} {x : α} (h : σ[i]? = some x) : σ.set i x = σ := List.ext_getElem? fun j => by
  by_cases z : i = j
  · subst z; rw [List.getElem?_set_self (lt_of_get h), h]
  · rw [List.getElem?_set_ne z]
/-- one slot is turned, the heap stays -/
theorem Rel.turn (r : Rel K g F ρ σ H) {s' : Sl} {σ' : L2.St} (hσ : ∀ j, i ≠ j → σ'[j]? = σ[j]?) (hn : ∀ e, ρ[i]? ≠ some (Sl.mu true e)) (w : ∃ Rs, Own K g F H (ρ.set i s') σ' Rs) : Rel K g F (ρ.set i s') σ' H where
  ext := r.ext
  f0 := r.f0
  new := r.new
  keep := r.keep
  dom := r.dom
  io := fun j q hq => by
    obtain ⟨h1, e, h2⟩ := r.io j q hq
    have z : i ≠ j := fun z => by subst z; exact hn _ h2
    rw [List.getElem?_set_ne z, hσ j z]
    exact ⟨h1, e, h2⟩
  own := w
/-- a slot gets a frozen value -/
theorem Rel.setVal (r : Rel K g F ρ σ H) {v : V} (hn : ∀ e, ρ[i]? ≠ some (Sl.mu true e)) (hd : Rep K F d v) : Rel K g F (ρ.set i (Sl.val d)) (σ.set i (some v)) H := by
  obtain ⟨Rs, w⟩ := r.own
  exact r.turn (fun j z => List.getElem?_set_ne z) hn ⟨_, w.set i (R' := []) ⟨⟨v, rfl, hd⟩, rfl⟩ List.nodup_nil (fun _ _ _ _ a ha => by cases ha) fun a ha => by cases ha⟩
/-- a slot is forgotten -/
theorem Rel.setNo (r : Rel K g F ρ σ H) {x : Option V} (hn : ∀ e, ρ[i]? ≠ some (Sl.mu true e)) : Rel K g F (ρ.set i Sl.no) (σ.set i x) H := by
  obtain ⟨Rs, w⟩ := r.own
  exact r.turn (fun j z => List.getElem?_set_ne z) hn ⟨_, w.set i (R' := []) rfl List.nodup_nil (fun _ _ _ _ a ha => by cases ha) fun a ha => by cases ha⟩
theorem Rel.dropSl (r : Rel K g F ρ σ H) (hn : ∀ e, ρ[i]? ≠ some (Sl.mu true e)) : Rel K g F (ρ.set i Sl.no) σ H := by
  obtain ⟨Rs, w⟩ := r.own
  exact r.turn (fun j z => rfl) hn ⟨_, w.drop i⟩
/-- a slot holds the exception -/
theorem Rel.setExn (r : Rel K g F ρ σ H) {a : Addr} (he : g.exa = some a) (hn : ∀ e, ρ[i]? ≠ some (Sl.mu true e)) : Rel K g F (ρ.set i Sl.exn) (σ.set i (some (V.ref a))) H := by
  obtain ⟨Rs, w⟩ := r.own
  exact r.turn (fun j z => List.getElem?_set_ne z) hn ⟨_, w.set i (R' := []) ⟨⟨a, he, rfl⟩, rfl⟩ List.nodup_nil (fun _ _ _ _ a ha => by cases ha) fun a ha => by cases ha⟩
/-- a slot gets a fresh thing -/
theorem Rel.setFr (r : Rel K (g.hold (one p o)) F ρ σ H) (hn : ∀ e, ρ[i]? ≠ some (Sl.mu true e)) (h3 : RepO K F d o) (h4 : g.H0 p = none) (h6 : g.held p = none) : Rel K g F (ρ.set i (Sl.mu false d)) (σ.set i (some (V.ref p))) H := by
  obtain ⟨hp, hF⟩ := r.heldAt
  obtain ⟨Rs, w⟩ := r.own
  have w' := w.unhold (one_held h6)
  refine (r.unhold (one_held h6)).turn (fun j z => List.getElem?_set_ne z) hn ⟨_, w'.set i (R' := [p]) ⟨p, o, rfl, hp, h3, rfl, (fun z => by cases z), fun _ => h4⟩ (nodup1 p) (fun j R _ hR a ha hb => ?_) fun a ha => ?_⟩
  · rw [List.mem_singleton.mp ha] at hb
    have k := (plus_is (w.out j R hR p hb).2.1).1
    rw [one_same] at k; cases k
  · rw [List.mem_singleton.mp ha]; exact ⟨hF, h6, .inl h4⟩
/-- .. an owned tree -/
theorem Rel.setOt (r : Rel K (g.hold (cells R H)) F ρ σ H) {t : Ot} {v : V} (hn : ∀ e, ρ[i]? ≠ some (Sl.mu true e)) (h1 : RepT K F H t v R) (h2 : R.Nodup) (h3 : ∀ a ∈ R, g.H0 a = none ∧ g.held a = none) : Rel K g F (ρ.set i (Sl.ot t)) (σ.set i (some v)) H := by
  obtain ⟨Rs, w⟩ := r.own
  have hh : ∀ b u, cells R H b = some u → g.held b = none := fun b u e => (h3 b (cells_mem e)).2
  have w' := w.unhold hh
  refine (r.unhold hh).turn (fun j z => List.getElem?_set_ne z) hn ⟨_, w'.set i (R' := R) ⟨v, rfl, h1, fun a ha => (h3 a ha).1⟩ h2 (fun j S _ hS a ha hb => ?_) fun a ha => ⟨?_, (h3 a ha).2, .inl (h3 a ha).1⟩⟩
  · obtain ⟨u, q⟩ := Option.ne_none_iff_exists'.mp (h1.there a ha)
    have k := (plus_is (w.out j S hS a hb).2.1).1
    rw [cells_at ha q] at k; cases k
  · obtain ⟨u, q⟩ := Option.ne_none_iff_exists'.mp (h1.there a ha)
    exact (w.hel a u (plus_some (cells_at ha q))).2
/-- a slot's own thing is taken out -/
theorem Rel.takeMu (r : Rel K g F ρ σ H) (hi : ρ[i]? = some (Sl.mu false d)) : ∃ p o, σ[i]? = some (some (V.ref p)) ∧ RepO K F d o ∧ g.H0 p = none ∧ g.held p = none ∧ Rel K (g.hold (one p o)) F (ρ.set i Sl.no) σ H := by
  obtain ⟨Rs, w⟩ := r.own
  obtain ⟨x, R, h1, h2, p, o, rfl, h4, h5, rfl, h6, h7⟩ := w.at' hi
  have ho := w.out i _ h2 p List.mem_cons_self
  have r' := r.dropSl (i := i) fun e q => by rw [hi] at q; cases q
  refine ⟨p, o, h1, h5, h7 rfl, ho.2.1, { ext := r'.ext, f0 := r'.f0, new := r'.new, keep := r'.keep, dom := r'.dom, io := r'.io, own := ⟨_, (w.drop i).hold (fun b u e => ?_) fun j R hR a ha => ?_⟩ }⟩
  · by_cases z : b = p
    · subst z
      rw [one_same] at e; cases e
      exact ⟨h4, ho.1⟩
    · rw [one_ne z] at e; cases e
  · rcases get_set hR with ⟨_, y⟩ | ⟨z, hR'⟩
    · subst y; cases ha
    · exact one_ne fun y => w.dis i j _ R z h2 hR' p List.mem_cons_self (by rw [← y]; exact ha)
theorem Rel.takeOt (r : Rel K g F ρ σ H) {t : Ot} (hi : ρ[i]? = some (Sl.ot t)) : ∃ v R, σ[i]? = some (some v) ∧ RepT K F H t v R ∧ R.Nodup ∧ (∀ a ∈ R, g.H0 a = none ∧ g.held a = none) ∧ Rel K (g.hold (cells R H)) F (ρ.set i Sl.no) σ H := by
  obtain ⟨Rs, w⟩ := r.own
  obtain ⟨x, R, h1, h2, v, rfl, h4, h5⟩ := w.at' hi
  have r' := r.dropSl (i := i) fun e q => by rw [hi] at q; cases q
  refine ⟨v, R, h1, h4, w.nd i R h2, fun a ha => ⟨h5 a ha, (w.out i R h2 a ha).2.1⟩, { ext := r'.ext, f0 := r'.f0, new := r'.new, keep := r'.keep, dom := r'.dom, io := r'.io, own := ⟨_, (w.drop i).hold (fun b u e => ?_) fun j S hS a ha => ?_⟩ }⟩
  · have m := cells_mem e
    rw [cells_in m] at e
    exact ⟨e, (w.out i R h2 b m).1⟩
  · rcases get_set hS with ⟨_, y⟩ | ⟨z, hS'⟩
    · subst y; cases ha
    · exact cells_out fun y => w.dis i j R S z h2 hS' a y ha
/-- a mutable thing of a slot is changed -/
theorem Rel.write (r : Rel K g F ρ σ H) {b : Bool} {d' : Dv} {o' : HO} (hi : ρ[i]? = some (Sl.mu b d)) (hs : σ[i]? = some (some (V.ref p))) (ho : RepO K F d' o') : Rel K g F (ρ.set i (Sl.mu b d')) σ (upd H p o') := by
  obtain ⟨Rs, w⟩ := r.own
  obtain ⟨x, R, h1, h2, q, o, rfl, h4, h5, rfl, h6, h7⟩ := w.at' hi
  rw [hs] at h1
  obtain rfl := V.ref.inj (Option.some.inj (Option.some.inj h1))
  have hout := w.out i _ h2 p List.mem_cons_self
  have hd : ∀ (j : Nat) (R : List Addr), (Rs.set i [])[j]? = some R → ∀ a ∈ R, a ≠ p := fun j R hR a ha z => by
    rcases get_set hR with ⟨_, y⟩ | ⟨y, hR'⟩
    · subst y; cases ha
    · exact w.dis i j _ R y h2 hR' p List.mem_cons_self (by rw [← z]; exact ha)
  have w1 := (w.drop i).frame (H' := upd H p o') (Ext.refl F) (fun j R hR a ha => upd_ne (hd j R hR a ha)) (fun j R hR a ha => ((w.drop i).out j R hR a ha).1) fun c u e => by
    obtain ⟨a1, a2⟩ := w.hel c u e
    exact ⟨by rw [upd_ne (fun z => by rw [z, hout.2.1] at e; cases e)]; exact a1, a2⟩
  have w2 := w1.set i (s' := .mu b d') (x' := some (V.ref p)) (R' := [p]) ⟨p, o', rfl, upd_same, ho, rfl, h6, h7⟩ (nodup1 p) (fun j R z hR a ha hb => hd j R hR a hb (List.mem_singleton.mp ha)) (fun a ha => by rw [List.mem_singleton.mp ha]; exact hout)
  rw [List.set_set, List.set_set, set_self hs] at w2
  refine { ext := fun c u e => by rw [upd_ne (ne_of_none e hout.1)]; exact r.ext c u e, f0 := r.f0, new := r.new, keep := fun c u e hc => ?_, dom := fun c e => ?_, io := fun j c hc => ?_, own := ⟨_, w2⟩ }
  · by_cases z : c = p
    · subst z
      cases b with
      | false => rw [h7 rfl] at e; cases e
      | true => exact absurd (h6 rfl) (hc i)
    · rw [upd_ne z]; exact r.keep c u e hc
  · by_cases z : c = p
    · rw [z, upd_same]; exact Option.some_ne_none _
    · rw [upd_ne z]; exact r.dom c e
  · obtain ⟨k1, e, k2⟩ := r.io j c hc
    by_cases z : i = j
    · subst z
      rw [hi] at k2; cases k2
      exact ⟨k1, d', List.getElem?_set_self (lt_of_get hi)⟩
    · exact ⟨k1, e, by rw [List.getElem?_set_ne z]; exact k2⟩
/-- a slot's own thing is frozen -/
theorem Rel.freezeSl (r : Rel K g F ρ σ H) (hi : ρ[i]? = some (Sl.mu false d)) : ∃ p F', σ[i]? = some (some (V.ref p)) ∧ Ext F F' ∧ Rel K g F' (ρ.set i (Sl.val d)) σ H ∧ Rep K F' d (.ref p) := by
  obtain ⟨p, o, h1, h2, h3, h4, r1⟩ := r.takeMu hi
  have hF := r1.heldAt.2
  have r2 := r1.freeze h3 h4
  have r3 := r2.setVal (i := i) (v := .ref p) (d := d) (fun e q => by rw [List.getElem?_set_self (lt_of_get hi)] at q; cases q) (h2.rep hF)
  rw [List.set_set, set_self h1] at r3
  exact ⟨p, _, h1, ext_upd hF, r3, h2.rep hF⟩
theorem Rel.freezeOt (r : Rel K g F ρ σ H) {t : Ot} (hi : ρ[i]? = some (Sl.ot t)) : ∃ v F', σ[i]? = some (some v) ∧ Ext F F' ∧ Rel K g F' (ρ.set i (Sl.val t.er)) σ H ∧ Rep K F' t.er v := by
  obtain ⟨v, R, h1, h2, h3, h4, r1⟩ := r.takeOt hi
  have r2 := r1.freezeC h2 h4
  have r3 := r2.setVal (i := i) (v := v) (d := t.er) (fun e q => by rw [List.getElem?_set_self (lt_of_get hi)] at q; cases q) (r1.repC h2)
  rw [List.set_set, set_self h1] at r3
  exact ⟨v, _, h1, r1.extG, r3, r1.repC h2⟩
theorem ali_ok {a : AV} {v : V} {ok : Dv → VE → Prop} {ex : Er → VE → Prop} (r : Rel K g F ρ σ H) (h : AvOk K F σ a v) (z : RP (ali a ρ) ok ex) : ∃ d F' ρ', Ext F F' ∧ Rel K g F' ρ' σ H ∧ Rep K F' d v ∧ ok d ρ' := by
  cases a with
  | d d => exact ⟨d, F, ρ, Ext.refl F, r, h, z⟩
  | bor i =>
    unfold ali at z
    cases e : ρ[i]? with
    | none => simp only [e] at z; exact z.elim
    | some s =>
      simp only [e] at z
      cases s with
      | no => exact z.elim
      | exn => exact z.elim
      | ot t =>
        obtain ⟨u, F', h1, h2, h3, h4⟩ := r.freezeOt e
        have h' : σ[i]? = some (some v) := h
        rw [h'] at h1
        cases h1
        exact ⟨t.er, F', _, h2, h3, h4, z⟩
      | val d =>
        obtain ⟨u, h1, h2⟩ := r.val i d e
        have h' : σ[i]? = some (some v) := h
        rw [h'] at h1
        cases h1
        exact ⟨d, F, ρ, Ext.refl F, r, h2, z⟩
      | mu b d =>
        cases b with
        | true => exact z.elim
        | false =>
          obtain ⟨p, F', h1, h2, h3, h4⟩ := r.freezeSl e
          have h' : σ[i]? = some (some v) := h
          rw [h'] at h1
          cases h1
          exact ⟨d, F', _, h2, h3, h4, z⟩
end
end
end P0
end
section
set_option Elab.async false
set_option linter.all false
set_option maxRecDepth 100000
set_option maxHeartbeats 4000000
/-! P0, defs: what a def does to its arguments; calls. -/
namespace P0
open PySem PySem.Spec L2
open PyProof.Rows hiding St

/-- a def that keeps a promise wherever no guard runs (repr asks who runs) -/
structure FnG (P : Program) (w : World) (K : PySem.W.Frag) (mg : Str → Option Value) (base : Heap) (k : Nat) (f : Addr) (fd : FuncData) (ps : List Str) (sp : Sp) : Prop where
  len : ∀ vs H Q E, sp vs H Q E → vs.length = ps.length
  run : ∀ (A : Around) (outer : List Env) (s : Shared) (H : Hp) (args : Args) (us : List Value) (vs : List V) (Q : VK) (E : XK), A.guards = some [] → Room k A → Env0 P w K mg base A outer s H →
    BindsTo s fd args (ps.zip us) → Vals vs us → sp vs H Q E → codeAny (model P w) A (.call (.ref f) args) (CR (L2.CX P w) outer P w H s Q E) s
section
variable {P : Program} {w : World} {K : PySem.W.Frag} {mg : Str → Option Value} {base : Heap}
/-- by its body -/
theorem fnG_of {x qual : Str} {st : Stmt} {f : Addr} {fd : FuncData} {N ps : List Str} {k : Nat} {sp : Sp} (Fd : Fun K x qual st f fd) (S : FnScope N ps (defScope st)) (len : ∀ vs H Q E, sp vs H Q E → vs.length = ps.length)
    (hbody : ∀ (cdv : Value) (A : Around) (outer : List Env) (s : Shared) (H : Hp) (vs : List V) (Q : VK) (E : XK), A.guards = some [] → Room k (A.deeper (envOfC qual (defScope st) s.heap.objs.size f cdv)) → sp vs H Q E →
      ∃ t, PSs (cxOf (L2.CX P w) P w K mg base N qual (defScope st) f cdv A outer s H E) (defBody st) t ∧ t { nx := fun _ G => Q .non G, rt := Q } (L2.start N vs) H) : FnG P w K mg base (k + 1) f fd ps sp := by
  obtain ⟨oc, od, kV, doc, pm, an, cdv, ct, osl, rfl, lk, hcd⟩ := Fd.ex
  constructor
  · exact len
  intro A outer s H args us vs Q E hgd room e0 hbind rel hsp
  have KX : K.In s.heap := e0.mod.kin.keeps fun b o e => (e0.bs b o e).1
  have kinds : ∀ y ∈ ps.zip us, (defScope st).names.lookup y.1 = some .local ∨
      ((defScope st).names.lookup y.1 = some .cell ∧ ((cellsFrom (s.heap.objs.size + 1) (defScope st).names []).lookup y.1).isSome = true) := by
    rintro ⟨n, v⟩ hy
    cases S.par n (List.of_mem_zip hy).1 with
    | inl q => exact Or.inl q
    | inr q => exact Or.inr ⟨q, PySem.W.cellsFrom_some _ _ _ (Or.inl q)⟩
  refine codeAny_call_function room.depth (KX _ _ lk) rfl S.co S.gen rfl (PySem.W.codeRec_of KX hcd) (hbind _ _ _ _ ?_)
  refine wpAny_newFunctionEnv_cells S.kind kinds fun env he s1 x => ?_
  subst he
  refine ⟨(e0.mod.nolimit.keeps fun b o e => (e0.bs b o e).1).keeps x.toInCall.keep, codeAny_func ?_⟩
  obtain ⟨t, ht, hq⟩ := hbody cdv A outer s H vs Q E hgd (room.deeper _) hsp
  have I := inv_start (CX := L2.CX P w) (E := E) (qual := qual) (f := f) (cd := cdv) S room.hd e0 (len _ _ _ _ hsp) rel x
  refine wpAny_mono (ht.run [] s1 (L2.start N vs) H _ I hq) (fun fl s' hs => ?_) fun e s' hs => hs
  cases fl with
  | brk => obtain ⟨_, _, _, z⟩ := hs; exact False.elim z
  | cont => obtain ⟨_, _, _, z⟩ := hs; exact False.elim z
  | next =>
    obtain ⟨σ', H', J, z⟩ := hs
    exact ⟨V.non, H', J.os, J.bare, J.base, J.hok, rfl, z⟩
  | ret u =>
    obtain ⟨v, σ', H', J, rv, z⟩ := hs
    exact ⟨v, H', J.os, J.bare, J.base, J.hok, rv, z⟩
end

section
variable {X : Cx} {k : Nat} {f : Addr} {fd : FuncData} {ps : List Str} {sp : Sp} {E : L2.St → XK} {x : Str} {p pos : Pos} {e : Expr} {es : List Expr} {t : TA}
theorem run_fnG {pins : List (Addr × Obj)} {σ : L2.St} {H : Hp} {s : Shared} {Q : VK} {us : List Value} {vs : List V} (Fk : FnG X.prog X.w X.K X.mg X.base k f fd ps sp) (hgd : X.A.guards = some []) (hr : Room k X.A) (hb : Binds X.K fd ps [])
    (hx : PassesAt (L2.CX X.prog X.w) X σ (E σ)) (I : Inv X pins σ H s) (r : Vals vs us) (h : sp vs H Q (E σ)) : wpAny (model X.prog X.w) X.A (call (.ref f) us) (EP X pins σ Q) X.xe s := by
  have b := hb s us I.kIn (by rw [List.append_nil, ← r.length]; exact Fk.len _ _ _ _ h)
  rw [List.append_nil] at b
  have c := Fk.run X.A X.stack s H ⟨us, []⟩ us vs Q (E σ) hgd hr I.env0 b r h
  refine wpAny_call (codeAny_mono c fun res s' hq => ?_)
  rcases res with e | fl
  · exact hx pins H s e s' I hq
  · cases fl
    case ret u => exact I.after hq
    all_goals exact hq.elim
theorem pe_callG (Fk : FnG X.prog X.w X.K X.mg X.base k f fd ps sp) (hgd : X.A.guards = some []) (hr : Room k X.A) (hg : Gl X x) (hm : X.mg x = some (.ref f)) (hk : PySem.W.keepIn X.K (.ref f) = true) (hb : Binds X.K fd ps [])
    (hx : ∀ σ, PassesAt (L2.CX X.prog X.w) X σ (E σ)) (ha : PA X (e :: es) t) (hdb : (x == ("__debug__" : Str)) = false := by decide)
    (he : starEach (e :: es) X.env = (false, eval e X.env) :: starEach es X.env := by rfl) (hpl : (backTo pos (starEach es X.env)).any (·.1) = false := by rfl) : PE X (.Call (.Name x p) (e :: es) [] pos) (tCallS sp E t) := by
  constructor
  intro pins s σ H Q I h
  refine wpAny_Call_Name_kw (ld_glob I hg hm (PySem.W.callWith_K (h₀ := X.base) I.ok.mod.kin hk (thn (ha.run pos pins s σ H _ I h) ?_) he hpl) hdb)
  rintro us s1 ⟨vs, H1, I1, r, q⟩
  exact ⟨I1.kIn, run_fnG Fk hgd hr hb (hx σ) I1 r q⟩
end

/-- what a call leaves: F and H ahead of it, F' and H' behind; io: the in-out thing -/
structure CP (io : Option Addr) (F H F' H' : Hp) : Prop where
  e1 : Ext F F'
  e2 : Ext F' H'
  new : ∀ b, F' b ≠ none → F b ≠ none ∨ H b = none
  keep : ∀ b o, H b = some o → io ≠ some b → H' b = some o
  dom : ∀ b, H b ≠ none → H' b ≠ none
def RvC (K : PySem.W.Frag) (H F' H' : Hp) (io : Option Addr) : RV → V → Prop
  | .d d, v => Rep K F' d v
  | .fr d, v => ∃ p o, v = .ref p ∧ F' p = none ∧ H' p = some o ∧ RepO K F' d o ∧ H p = none
  | .ow t, v => ∃ R, RepT K F' H' t v R ∧ R.Nodup ∧ ∀ a ∈ R, F' a = none ∧ H a = none
  | .bor _, _ => False
/-- the promise of a def without in-out things, by what it does -/
def spF (K : PySem.W.Frag) (mg : Str → Option Value) (φ : List Sl → R RV) (n : Nat) : Sp := fun vs H Q E => ∃ F ds, ds.length = n ∧ Ext F H ∧ Reps K F ds vs ∧
  RP (φ (ds.map Sl.val)) (fun rv _ => ∀ v F' H', CP none F H F' H' → RvC K H F' H' none rv v → Q v H') (fun er _ => ∀ cls d F' H', CP none F H F' H' → ErOk K mg F' er cls d → E cls d H')
/-- .. whose first argument is one -/
def spI (K : PySem.W.Frag) (mg : Str → Option Value) (φ : List Sl → R RV) (n : Nat) : Sp := fun vs H Q E => ∃ F d0 p o ds ws, vs = .ref p :: ws ∧ ds.length = n ∧ Ext F H ∧ F p = none ∧ H p = some o ∧ RepO K F d0 o ∧ Reps K F ds ws ∧
  RP (φ (Sl.mu true d0 :: ds.map Sl.val)) (fun rv ρ' => ∀ v F' H' d' o', CP (some p) F H F' H' → ρ'[0]? = some (Sl.mu true d') → F' p = none → H' p = some o' → RepO K F' d' o' → RvC K H F' H' (some p) rv v → Q v H')
    (fun er ρ' => ∀ cls d F' H' d' o', CP (some p) F H F' H' → ρ'[0]? = some (Sl.mu true d') → F' p = none → H' p = some o' → RepO K F' d' o' → ErOk K mg F' er cls d → E cls d H')
theorem spF_len {K : PySem.W.Frag} {mg : Str → Option Value} {φ : List Sl → R RV} {n : Nat} {ps : List Str} (hn : ps.length = n) : ∀ vs H Q E, spF K mg φ n vs H Q E → vs.length = ps.length := by
  rintro vs H Q E ⟨F, ds, h1, _, h2, _⟩
  rw [← h2.length, h1, hn]
theorem spI_len {K : PySem.W.Frag} {mg : Str → Option Value} {φ : List Sl → R RV} {n : Nat} {ps : List Str} (hn : ps.length = n + 1) : ∀ vs H Q E, spI K mg φ n vs H Q E → vs.length = ps.length := by
  rintro vs H Q E ⟨F, d0, p, o, ds, ws, rfl, h1, _, _, _, _, h2, _⟩
  rw [List.length_cons, ← h2.length, h1, hn]

/-! ### the call, seen by the caller -/
section
variable {K : PySem.W.Frag} {g : Gx} {F H F' H' : Hp} {ρ : VE} {σ : L2.St}
/-- the slots own nothing but what stood in H -/
def Old (K : PySem.W.Frag) (g : Gx) (F' H' : Hp) (ρ : VE) (σ : L2.St) (H : Hp) : Prop := ∃ Rs, Own K g F' H' ρ σ Rs ∧ ∀ (i : Nat) (R : List Addr), Rs[i]? = some R → ∀ a ∈ R, H a ≠ none
theorem Rel.calledO (r : Rel K g F ρ σ H) (c : CP none F H F' H') : Old K g F' H' ρ σ H := by
  obtain ⟨Rs, w⟩ := r.own
  have nF : ∀ b, H b ≠ none → F b = none → F' b = none := fun b h1 h2 => by
    cases q : F' b with
    | none => rfl
    | some u =>
      rcases c.new b (by rw [q]; exact Option.some_ne_none u) with z | z
      · exact absurd h2 z
      · exact absurd z h1
  refine ⟨Rs, w.frame c.e1 (fun i R hR a ha => ?_) (fun i R hR a ha => nF a (w.there hR ha) (w.out i R hR a ha).1) fun b o e => ?_, fun i R hR a ha => w.there hR ha⟩
  · obtain ⟨u, q⟩ := Option.ne_none_iff_exists'.mp (w.there hR ha)
    rw [q]; exact c.keep a u q (fun z => by cases z)
  · obtain ⟨h1, h2⟩ := w.hel b o e
    exact ⟨c.keep b o h1 (fun z => by cases z), nF b (by rw [h1]; exact Option.some_ne_none o) h2⟩
theorem Rel.called (r : Rel K g F ρ σ H) (c : CP none F H F' H') : Rel K g F' ρ σ H' where
  ext := c.e2
  f0 := r.f0.trans c.e1
  new := fun b h => by
    rcases c.new b h with h | h
    · exact r.new b h
    · exact .inr (r.freeH0 h)
  keep := fun b o h n => c.keep b o (r.keep b o h n) (fun z => by cases z)
  dom := fun b h => c.dom b (r.dom b h)
  io := r.io
  own := let ⟨Rs, w, _⟩ := r.calledO c; ⟨Rs, w⟩
theorem Rel.calledIO (r : Rel K g F ρ σ H) {i : Nat} {b : Bool} {d d' : Dv} {p : Addr} {o' : HO} (hi : ρ[i]? = some (Sl.mu b d)) (hs : σ[i]? = some (some (V.ref p))) (c : CP (some p) F H F' H') (h1 : F' p = none) (h2 : H' p = some o') (h3 : RepO K F' d' o') :
    Rel K g F' (ρ.set i (Sl.mu b d')) σ H' ∧ Old K g F' H' (ρ.set i (Sl.mu b d')) σ H := by
  obtain ⟨Rs, w⟩ := r.own
  obtain ⟨x, R, e1, e2, q, o, rfl, e4, e5, rfl, e6, e7⟩ := w.at' hi
  rw [hs] at e1
  obtain rfl := V.ref.inj (Option.some.inj (Option.some.inj e1))
  have hout := w.out i _ e2 p List.mem_cons_self
  have nF : ∀ b, H b ≠ none → F b = none → F' b = none := fun b h1 h2 => by
    cases q : F' b with
    | none => rfl
    | some u =>
      rcases c.new b (by rw [q]; exact Option.some_ne_none u) with z | z
      · exact absurd h2 z
      · exact absurd z h1
  have hd : ∀ (j : Nat) (R : List Addr), (Rs.set i [])[j]? = some R → ∀ a ∈ R, a ≠ p := fun j R hR a ha z => by
    rcases get_set hR with ⟨_, y⟩ | ⟨y, hR'⟩
    · subst y; cases ha
    · exact w.dis i j _ R y e2 hR' p List.mem_cons_self (by rw [← z]; exact ha)
  have w0 := w.drop i
  have w1 := w0.frame (H' := H') c.e1 (fun j R hR a ha => by
    obtain ⟨u, q⟩ := Option.ne_none_iff_exists'.mp (w0.there hR ha)
    rw [q]; exact c.keep a u q (fun z => hd j R hR a ha (Option.some.inj z).symm)) (fun j R hR a ha => nF a (w0.there hR ha) (w0.out j R hR a ha).1) fun c' u e => by
    obtain ⟨a1, a2⟩ := w.hel c' u e
    exact ⟨c.keep c' u a1 (fun z => by cases z; rw [hout.2.1] at e; cases e), nF c' (by rw [a1]; exact Option.some_ne_none u) a2⟩
  have w2 := w1.set i (s' := .mu b d') (x' := some (V.ref p)) (R' := [p]) ⟨p, o', rfl, h2, h3, rfl, e6, e7⟩ (nodup1 p) (fun j R z hR a ha hb => hd j R hR a hb (List.mem_singleton.mp ha)) (fun a ha => by rw [List.mem_singleton.mp ha]; exact ⟨h1, hout.2⟩)
  rw [List.set_set, List.set_set, set_self hs] at w2
  refine ⟨{ ext := c.e2, f0 := r.f0.trans c.e1, new := fun x h => ?_, keep := fun x o h n => ?_, dom := fun x h => c.dom x (r.dom x h), io := fun j q hq => ?_, own := ⟨_, w2⟩ }, _, w2, fun j R hR a ha => ?_⟩
  · rcases c.new x h with h | h
    · exact r.new x h
    · exact .inr (r.freeH0 h)
  · refine c.keep x o (r.keep x o h n) fun z => ?_
    cases z
    cases b with
    | false => rw [e7 rfl] at h; cases h
    | true => exact n i (e6 rfl)
  · obtain ⟨k1, e, k2⟩ := r.io j q hq
    by_cases z : i = j
    · subst z
      rw [hi] at k2; cases k2
      exact ⟨k1, d', List.getElem?_set_self (lt_of_get hi)⟩
    · exact ⟨k1, e, by rw [List.getElem?_set_ne z]; exact k2⟩
  · rcases get_set hR with ⟨_, y⟩ | ⟨y, hR'⟩
    · subst y
      rw [List.mem_singleton.mp ha, e4]; exact Option.some_ne_none _
    · exact w.there hR' ha
theorem Rel.calledI (r : Rel K g F ρ σ H) {i : Nat} {b : Bool} {d d' : Dv} {p : Addr} {o' : HO} (hi : ρ[i]? = some (Sl.mu b d)) (hs : σ[i]? = some (some (V.ref p))) (c : CP (some p) F H F' H') (h1 : F' p = none) (h2 : H' p = some o') (h3 : RepO K F' d' o') :
    Rel K g F' (ρ.set i (Sl.mu b d')) σ H' := (r.calledIO hi hs c h1 h2 h3).1
/-- what a call hands back, in the caller's hands -/
theorem RvC.ok {ρ' : VE} {io : Option Addr} {rv : RV} {v : V} (r : Rel K g F ρ σ H) (r' : Rel K g F' ρ' σ H') (w : Old K g F' H' ρ' σ H) (h : RvC K H F' H' io rv v) : RvOk K g F' ρ' σ H' rv v := by
  obtain ⟨Rs, w, ol⟩ := w
  cases rv with
  | d d => exact h
  | bor i => exact h.elim
  | fr d =>
    obtain ⟨q, o, h1, h2, h3, h4, h5⟩ := h
    refine ⟨q, o, h1, h4, r.freeH0 h5, r.noHeld h5, { ext := r'.ext, f0 := r'.f0, new := r'.new, keep := r'.keep, dom := r'.dom, io := r'.io, own := ⟨Rs, w.hold (fun b u e => ?_) fun i R hR a ha => one_ne fun z => ol i R hR a ha (by rw [z]; exact h5)⟩ }⟩
    by_cases z : b = q
    · subst z
      rw [one_same] at e; cases e
      exact ⟨h3, h2⟩
    · rw [one_ne z] at e; cases e
  | ow t =>
    obtain ⟨R, h1, h2, h3⟩ := h
    refine ⟨R, h1, h2, fun a ha => ⟨r.freeH0 (h3 a ha).2, r.noHeld (h3 a ha).2⟩, { ext := r'.ext, f0 := r'.f0, new := r'.new, keep := r'.keep, dom := r'.dom, io := r'.io, own := ⟨Rs, w.hold (fun b u e => ?_) fun i S hS a ha => cells_out fun z => ol i S hS a ha (h3 a z).2⟩ }⟩
    have m := cells_mem e
    rw [cells_in m] at e
    exact ⟨e, (h3 b m).1⟩
end

/-! ### the promise, from the body -/
/-- what the body does, as a def: the value that is handed back -/
def runB (n : Nat) (b : M Fl) (sl : List Sl) : R RV := match b (sl ++ List.replicate n Sl.no) with
  | .ok (.rt (.bor i)) ρ => match ρ[i]? with
    | some (.mu false d) => .ok (.fr d) (ρ.set i .no)
    | some (.ot t) => .ok (.ow t) (ρ.set i .no)
    | some (.val d) => .ok (.d d) ρ
    | _ => .bad
  | .ok (.rt rv) ρ => .ok rv ρ
  | .ok .nx ρ => .ok (.d .non) ρ
  | .ok .bk _ => .bad
  | .ok .ct _ => .bad
  | .exc e ρ => .exc e ρ
  | .bad => .bad
theorem RP_runB {n : Nat} {b : M Fl} {sl : List Sl} {ok : RV → VE → Prop} {ex : Er → VE → Prop} (h : RP (runB n b sl) ok ex) :
    RP (b (sl ++ List.replicate n Sl.no)) (fun f ρ => match f with
      | .nx => ok (.d .non) ρ
      | .bk => False
      | .ct => False
      | .rt (.bor i) => (∃ d, ρ[i]? = some (Sl.mu false d) ∧ ok (.fr d) (ρ.set i Sl.no)) ∨ (∃ d, ρ[i]? = some (Sl.val d) ∧ ok (.d d) ρ) ∨ ∃ t, ρ[i]? = some (Sl.ot t) ∧ ok (.ow t) (ρ.set i Sl.no)
      | .rt rv => ok rv ρ) ex := by
  unfold runB at h
  cases hb : b (sl ++ List.replicate n Sl.no) with
  | bad => rw [hb] at h; exact h
  | exc e ρ => rw [hb] at h; exact h
  | ok f ρ =>
    rw [hb] at h
    cases f with
    | nx => exact h
    | bk => exact h
    | ct => exact h
    | rt rv =>
      cases rv with
      | d d => exact h
      | fr d => exact h
      | ow t => exact h
      | bor i =>
        simp only at h
        cases e : ρ[i]? with
        | none => simp only [e] at h; exact h.elim
        | some s =>
          simp only [e] at h
          cases s with
          | no => exact h.elim
          | exn => exact h.elim
          | ot t => exact .inr (.inr ⟨t, e, h⟩)
          | val d => exact .inr (.inl ⟨d, e, h⟩)
          | mu c d =>
            cases c with
            | true => exact h.elim
            | false => exact .inl ⟨d, e, h⟩
theorem start_vals {N : List Str} {vs : List V} {i : Nat} {v : V} (h : vs[i]? = some v) : (L2.start N vs)[i]? = some (some v) := by
  unfold L2.start
  have hl : i < vs.length := by
    rcases Nat.lt_or_ge i vs.length with x | x
    · exact x
    · rw [List.getElem?_eq_none x] at h; cases h
  rw [List.getElem?_append_left (by rw [List.length_map]; exact hl), List.getElem?_map, h]; rfl
theorem sls_at {sl : List Sl} {n i : Nat} {s : Sl} (h : (sl ++ List.replicate n Sl.no)[i]? = some s) (hs : s ≠ .no) : sl[i]? = some s := by
  rcases Nat.lt_or_ge i sl.length with x | x
  · rw [List.getElem?_append_left x] at h; exact h
  · rw [List.getElem?_append_right x, List.getElem?_replicate] at h
    split at h
    · cases h; exact absurd rfl hs
    · cases h
section
variable {K : PySem.W.Frag} {F H : Hp} {ds : List Dv} {ws vs : List V} {N : List Str} {n : Nat}
theorem rel_start (he : Ext F H) (h : Reps K F ds vs) (hn : ds.length + n = N.length) : Rel K ⟨H, F, [], fun _ => none, none⟩ F (ds.map Sl.val ++ List.replicate n Sl.no) (L2.start N vs) H where
  ext := he
  f0 := Ext.refl F
  new := fun b h => .inl h
  keep := fun b o h _ => h
  dom := fun b h => h
  io := fun i p h => by cases h
  own := ⟨List.replicate N.length [], {
    len := by
      unfold L2.start
      rw [List.length_append, List.length_append, List.length_map, List.length_map, List.length_replicate, List.length_replicate, h.length]
      have := h.length
      omega
    lenR := by rw [List.length_append, List.length_map, List.length_replicate, List.length_replicate]; exact hn
    ok := fun i s x R h1 h2 h3 => by
      obtain rfl : R = [] := by rw [List.getElem?_replicate] at h3; split at h3 <;> cases h3; rfl
      by_cases hs : s = .no
      · subst hs; rfl
      · have e := sls_at h1 hs
        rw [List.getElem?_map] at e
        cases q : ds[i]? with
        | none => rw [q] at e; cases e
        | some d' =>
          rw [q] at e; cases e
          obtain ⟨v, k1, k2⟩ := h.get q
          rw [start_vals k1] at h2
          cases h2
          exact ⟨⟨v, rfl, k2⟩, rfl⟩
    nd := fun i R hR => by rw [List.getElem?_replicate] at hR; split at hR <;> cases hR; exact List.nodup_nil
    dis := fun i j R S _ hR _ a ha => by rw [List.getElem?_replicate] at hR; split at hR <;> cases hR; cases ha
    out := fun i R hR a ha => by rw [List.getElem?_replicate] at hR; split at hR <;> cases hR; cases ha
    hel := fun b o e => by cases e }⟩
theorem rel_startI {d0 : Dv} {p : Addr} {o : HO} (he : Ext F H) (h1 : F p = none) (h2 : H p = some o) (h3 : RepO K F d0 o) (h : Reps K F ds ws) (hn : ds.length + 1 + n = N.length) :
    Rel K ⟨H, F, [(0, p)], fun _ => none, none⟩ F (Sl.mu true d0 :: ds.map Sl.val ++ List.replicate n Sl.no) (L2.start N (.ref p :: ws)) H where
  ext := he
  f0 := Ext.refl F
  new := fun b h => .inl h
  keep := fun b o h _ => h
  dom := fun b h => h
  io := fun i q hq => by
    cases List.mem_singleton.mp hq
    exact ⟨start_vals rfl, d0, rfl⟩
  own := ⟨[p] :: List.replicate (N.length - 1) [], by
    have rest : ∀ (i : Nat) (R : List Addr), ([p] :: List.replicate (N.length - 1) ([] : List Addr))[i]? = some R → (i = 0 ∧ R = [p]) ∨ (i ≠ 0 ∧ R = []) := fun i R hR => by
      cases i with
      | zero => exact .inl ⟨rfl, (Option.some.inj hR).symm⟩
      | succ i =>
        rw [List.getElem?_cons_succ, List.getElem?_replicate] at hR
        split at hR
        · exact .inr ⟨Nat.succ_ne_zero i, (Option.some.inj hR).symm⟩
        · cases hR
    refine { len := ?_, lenR := ?_, ok := fun i s x R k1 k2 k3 => ?_, nd := fun i R hR => ?_, dis := fun i j R S hij hR hS a ha hb => ?_, out := fun i R hR a ha => ?_, hel := fun b o e => (by cases e) }
    · unfold L2.start
      simp only [List.length_append, List.length_map, List.length_replicate, List.length_cons, h.length]
      have := h.length
      omega
    · simp only [List.length_append, List.length_map, List.length_replicate, List.length_cons]
      omega
    · rcases rest i R k3 with ⟨rfl, rfl⟩ | ⟨hi, rfl⟩
      · cases k1
        rw [start_vals (v := .ref p) rfl] at k2
        cases k2
        exact ⟨p, o, rfl, h2, h3, rfl, fun _ => List.mem_singleton.mpr rfl, fun z => by cases z⟩
      · by_cases hs : s = .no
        · subst hs; rfl
        · have e := sls_at k1 hs
          cases i with
          | zero => exact absurd rfl hi
          | succ i =>
            rw [List.getElem?_cons_succ, List.getElem?_map] at e
            cases q : ds[i]? with
            | none => rw [q] at e; cases e
            | some d' =>
              rw [q] at e; cases e
              obtain ⟨v, a1, a2⟩ := h.get q
              rw [start_vals (v := v) (by rw [List.getElem?_cons_succ]; exact a1)] at k2
              cases k2
              exact ⟨⟨v, rfl, a2⟩, rfl⟩
    · rcases rest i R hR with ⟨_, rfl⟩ | ⟨_, rfl⟩
      · exact nodup1 p
      · exact List.nodup_nil
    · rcases rest i R hR with ⟨rfl, rfl⟩ | ⟨_, rfl⟩
      · rcases rest j S hS with ⟨rfl, _⟩ | ⟨_, rfl⟩
        · exact hij rfl
        · cases hb
      · cases ha
    · rcases rest i R hR with ⟨rfl, rfl⟩ | ⟨_, rfl⟩
      · rw [List.mem_singleton.mp ha]
        exact ⟨h1, rfl, .inr (List.mem_singleton.mpr rfl)⟩
      · cases ha⟩
end
section
variable {P : Program} {w : World} {K : PySem.W.Frag} {mg : Str → Option Value} {base : Heap}
theorem Rel.cp {g : Gx} {F : Hp} {ρ : VE} {σ : L2.St} {H : Hp} (r : Rel K g F ρ σ H) (hg : g.ios = []) : CP none g.F0 g.H0 F H :=
  ⟨r.f0, r.ext, r.new, fun b o h _ => r.keep b o h fun i z => (by rw [hg] at z; cases z), r.dom⟩
theorem Rel.cpI {g : Gx} {F : Hp} {ρ : VE} {σ : L2.St} {H : Hp} {p : Addr} (r : Rel K g F ρ σ H) (hg : g.ios = [(0, p)]) : CP (some p) g.F0 g.H0 F H :=
  ⟨r.f0, r.ext, r.new, fun b o h n => r.keep b o h fun i z => (by
    rw [hg] at z
    cases List.mem_singleton.mp z
    exact n rfl), r.dom⟩
/-- a def, by what its body does -/
theorem fnF {x qual : Str} {st : Stmt} {f : Addr} {fd : FuncData} {N ps : List Str} {k n np : Nat} {b : M Fl} (Fd : Fun K x qual st f fd) (S : FnScope N ps (defScope st)) (hp : ps.length = np) (hn : np + n = N.length)
    (hb : ∀ (cdv : Value) (A : Around) (outer : List Env) (s : Shared) (H : Hp) (E : XK), A.guards = some [] → Room k (A.deeper (envOfC qual (defScope st) s.heap.objs.size f cdv)) →
      SSs (cxOf (L2.CX P w) P w K mg base N qual (defScope st) f cdv A outer s H E) ⟨fun cls d _ G => E cls d G, fun _ => True⟩ (defBody st) b) : FnG P w K mg base (k + 1) f fd ps (spF K mg (runB n b) np) := by
  refine fnG_of Fd S (spF_len hp) fun cdv A outer s H vs Q E hgd hr hsp => ?_
  obtain ⟨t, ht, hs⟩ := (hb cdv A outer s H E hgd hr).ex
  refine ⟨t, ht, ?_⟩
  obtain ⟨F, ds, h1, h2, h3, h4⟩ := hsp
  refine hs ⟨H, F, [], fun _ => none, none⟩ True.intro F _ _ H _ (rel_start h2 h3 (by rw [h1]; exact hn)) ?_
  refine (RP_runB h4).imp (fun fl ρ z => ?_) fun er ρ z => ?_
  · intro σ' F' H' e r
    cases fl with
    | nx => exact z _ F' H' (r.cp rfl) Rep.non
    | bk => exact z.elim
    | ct => exact z.elim
    | rt rv =>
      intro v rk
      cases rv with
      | d d => exact z v F' H' (r.cp rfl) rk
      | fr d =>
        obtain ⟨p, o, a1, a2, a3, a4, r1⟩ := rk
        exact z v F' H' (r.cp rfl) ⟨p, o, a1, r1.heldAt.2, r1.heldAt.1, a2, a3⟩
      | ow t =>
        obtain ⟨R, a1, a2, a3, r1⟩ := rk
        exact z v F' H' (r.cp rfl) ⟨R, a1, a2, fun a ha => ⟨r1.offC a1 a ha, (a3 a ha).1⟩⟩
      | bor i =>
        rcases z with ⟨d, hi, z⟩ | ⟨d, hi, z⟩ | ⟨t, hi, z⟩
        · obtain ⟨p, o, a1, a2, a3, a4, a5⟩ := r.mu i false d hi
          have rk' : σ'[i]? = some (some v) := rk
          rw [a1] at rk'; cases rk'
          exact z _ F' H' (r.cp rfl) ⟨p, o, rfl, a2, a3, a4, a5 rfl⟩
        rotate_left
        · obtain ⟨u, R, a1, a2, a3, a4, r1⟩ := r.takeOt hi
          have rk' : σ'[i]? = some (some v) := rk
          rw [a1] at rk'; cases rk'
          exact z _ F' H' (r.cp rfl) ⟨R, a2, a3, fun a ha => ⟨r1.offC a2 a ha, (a4 a ha).1⟩⟩
        · obtain ⟨u, a1, a2⟩ := r.val i d hi
          have rk' : σ'[i]? = some (some v) := rk
          rw [a1] at rk'; cases rk'
          exact z _ F' H' (r.cp rfl) a2
  · intro cls d σ' F' H' e r ek
    exact z cls d F' H' (r.cp rfl) ek
theorem fnI {x qual : Str} {st : Stmt} {f : Addr} {fd : FuncData} {N ps : List Str} {k n np : Nat} {b : M Fl} (Fd : Fun K x qual st f fd) (S : FnScope N ps (defScope st)) (hp : ps.length = np + 1) (hn : np + 1 + n = N.length)
    (hb : ∀ (cdv : Value) (A : Around) (outer : List Env) (s : Shared) (H : Hp) (E : XK), A.guards = some [] → Room k (A.deeper (envOfC qual (defScope st) s.heap.objs.size f cdv)) →
      SSs (cxOf (L2.CX P w) P w K mg base N qual (defScope st) f cdv A outer s H E) ⟨fun cls d _ G => E cls d G, fun _ => True⟩ (defBody st) b) : FnG P w K mg base (k + 1) f fd ps (spI K mg (runB n b) np) := by
  refine fnG_of Fd S (spI_len hp) fun cdv A outer s H vs Q E hgd hr hsp => ?_
  obtain ⟨t, ht, hs⟩ := (hb cdv A outer s H E hgd hr).ex
  refine ⟨t, ht, ?_⟩
  obtain ⟨F, d0, p, o, ds, ws, rfl, h1, h2, h3, h4, h5, h6, h7⟩ := hsp
  refine hs ⟨H, F, [(0, p)], fun _ => none, none⟩ True.intro F _ _ H _ (rel_startI h2 h3 h4 h5 h6 (by rw [h1]; exact hn)) ?_
  have fin : ∀ {F' H' : Hp} {ρ : VE} {σ' : L2.St}, Rel K ⟨H, F, [(0, p)], fun _ => none, none⟩ F' ρ σ' H' → ∃ d' o', ρ[0]? = some (Sl.mu true d') ∧ F' p = none ∧ H' p = some o' ∧ RepO K F' d' o' := fun {F' H' ρ σ'} r => by
    obtain ⟨a1, d', a2⟩ := r.io 0 p (List.mem_singleton.mpr rfl)
    obtain ⟨q, o', b1, b2, b3, b4, _⟩ := r.mu 0 true d' a2
    rw [a1] at b1; cases b1
    exact ⟨d', o', a2, b2, b3, b4⟩
  refine (RP_runB h7).imp (fun fl ρ z => ?_) fun er ρ z => ?_
  · intro σ' F' H' e r
    obtain ⟨d', o', c1, c2, c3, c4⟩ := fin r
    cases fl with
    | nx => exact z _ F' H' d' o' (r.cpI rfl) c1 c2 c3 c4 Rep.non
    | bk => exact z.elim
    | ct => exact z.elim
    | rt rv =>
      intro v rk
      cases rv with
      | d d => exact z v F' H' d' o' (r.cpI rfl) c1 c2 c3 c4 rk
      | fr d =>
        obtain ⟨p, o, a1, a2, a3, a4, r1⟩ := rk
        exact z v F' H' d' o' (r.cpI rfl) c1 c2 c3 c4 ⟨p, o, a1, r1.heldAt.2, r1.heldAt.1, a2, a3⟩
      | ow t =>
        obtain ⟨R, a1, a2, a3, r1⟩ := rk
        exact z v F' H' d' o' (r.cpI rfl) c1 c2 c3 c4 ⟨R, a1, a2, fun a ha => ⟨r1.offC a1 a ha, (a3 a ha).1⟩⟩
      | bor i =>
        rcases z with ⟨d, hi, z⟩ | ⟨d, hi, z⟩ | ⟨t, hi, z⟩
        rotate_left 2
        · obtain ⟨u, R, a1, a2, a3, a4, r1⟩ := r.takeOt hi
          have rk' : σ'[i]? = some (some v) := rk
          rw [a1] at rk'; cases rk'
          have hi0 : i ≠ 0 := fun y => by subst y; rw [c1] at hi; cases hi
          exact z _ F' H' d' o' (r.cpI rfl) (by rw [List.getElem?_set_ne hi0]; exact c1) c2 c3 c4 ⟨R, a2, a3, fun a ha => ⟨r1.offC a2 a ha, (a4 a ha).1⟩⟩
        · obtain ⟨p, o, a1, a2, a3, a4, a5⟩ := r.mu i false d hi
          have rk' : σ'[i]? = some (some v) := rk
          rw [a1] at rk'; cases rk'
          have hi0 : i ≠ 0 := fun y => by subst y; rw [c1] at hi; cases hi
          exact z _ F' H' d' o' (r.cpI rfl) (by rw [List.getElem?_set_ne hi0]; exact c1) c2 c3 c4 ⟨p, o, rfl, a2, a3, a4, a5 rfl⟩
        · obtain ⟨u, a1, a2⟩ := r.val i d hi
          have rk' : σ'[i]? = some (some v) := rk
          rw [a1] at rk'; cases rk'
          exact z _ F' H' d' o' (r.cpI rfl) c1 c2 c3 c4 a2
  · intro cls d σ' F' H' e r ek
    obtain ⟨d', o', c1, c2, c3, c4⟩ := fin r
    exact z cls d F' H' d' o' (r.cpI rfl) c1 c2 c3 c4 ek
end
end P0
end
section
set_option Elab.async false
set_option linter.all false
set_option maxRecDepth 100000
set_option maxHeartbeats 4000000
/-! P0, expressions. -/
namespace P0
open PySem PySem.Spec L2
open PyProof.Rows hiding St

/-! ### what stands behind Top -/
section
variable {K : PySem.W.Frag} {F H : Hp} {v : V}
theorem Top.int {i : Int} (h : Top K F H (.int i) v) : v = .int i := by
  rcases h with h | ⟨p, o, rfl, _, h⟩
  · cases h; rfl
  · cases h
theorem Top.bl {b : Bool} (h : Top K F H (.bl b) v) : v = .bl b := by
  rcases h with h | ⟨p, o, rfl, _, h⟩
  · cases h; rfl
  · cases h
theorem Top.str {x : Str} (h : Top K F H (.str x) v) : v = .str x := by
  rcases h with h | ⟨p, o, rfl, _, h⟩
  · cases h; rfl
  · cases h
theorem Top.non (h : Top K F H .non v) : v = .non := by
  rcases h with h | ⟨p, o, rfl, _, h⟩
  · cases h; rfl
  · cases h
theorem Top.lst {xs : List Dv} (e : Ext F H) (h : Top K F H (.lst xs) v) : ∃ a vs, v = .ref a ∧ H a = some (.lst vs) ∧ Reps K F xs vs := by
  rcases h with h | ⟨p, o, rfl, ho, h⟩
  · cases h with
    | lst h1 h2 => exact ⟨_, _, rfl, e _ _ h1, h2⟩
  · cases h with
    | lst h2 => exact ⟨_, _, rfl, ho, h2⟩
theorem Top.rls {xs : List Dv} (e : Ext F H) (h : Top K F H (.rls xs) v) : ∃ a vs, v = .ref a ∧ SqL K H a vs ∧ Reps K F xs vs := by
  rcases h with h | ⟨p, o, rfl, ho, h⟩
  · cases h with
    | rls h1 h2 => exact ⟨_, _, rfl, SqL.ext e h1, h2⟩
  · cases h
theorem Top.tup {xs : List Dv} (e : Ext F H) (h : Top K F H (.tup xs) v) : ∃ a vs, v = .ref a ∧ SqT K H a vs ∧ Reps K F xs vs := by
  rcases h with h | ⟨p, o, rfl, ho, h⟩
  · cases h with
    | tup h1 h2 => exact ⟨_, _, rfl, SqT.ext e h1, h2⟩
  · cases h
/-- the items of a list or tuple -/
def items? : Dv → Option (List Dv)
  | .lst xs => some xs
  | .rls xs => some xs
  | .tup xs => some xs
  | _ => none
theorem Top.seq {d : Dv} {xs : List Dv} (e : Ext F H) (h : Top K F H d v) (hx : items? d = some xs) : ∃ a vs, v = .ref a ∧ (SqL K H a vs ∨ SqT K H a vs) ∧ Reps K F xs vs := by
  cases d with
  | lst ys =>
    cases hx
    obtain ⟨a, vs, rfl, h1, h2⟩ := h.lst e
    exact ⟨a, vs, rfl, .inl (SqL.of h1), h2⟩
  | rls ys =>
    cases hx
    obtain ⟨a, vs, rfl, h1, h2⟩ := h.rls e
    exact ⟨a, vs, rfl, .inl h1, h2⟩
  | tup ys =>
    cases hx
    obtain ⟨a, vs, rfl, h1, h2⟩ := h.tup e
    exact ⟨a, vs, rfl, .inr h1, h2⟩
  | _ => cases hx
end
/-- the keys of dicts, against what they hold -/
abbrev KD (K : PySem.W.Frag) (F : Hp) {κ : Type} : List (κ × Dv) → List (κ × V) → Prop := Paired fun p q => p.1 = q.1 ∧ Rep K F p.2 q.2
section
variable {K : PySem.W.Frag} {F H : Hp} {v : V} {κ : Type}
theorem KD.of : ∀ {ks : List κ} {xs : List Dv} {vs : List V}, ks.length = xs.length → Reps K F xs vs → KD K F (ks.zip xs) (ks.zip vs)
  | [], [], _, _, .nil => .nil
  | k :: ks, d :: xs, _, hl, .cons a b => .cons ⟨rfl, a⟩ (KD.of (by simpa using hl) b)
  | [], _ :: _, _, hl, _ => by simp at hl
  | _ :: _, [], _, hl, _ => by simp at hl
theorem KD.to : ∀ {ps : List (κ × Dv)} {qs : List (κ × V)}, KD K F ps qs → ∃ ks xs vs, ps = List.zip ks xs ∧ qs = List.zip ks vs ∧ ks.length = xs.length ∧ Reps K F xs vs
  | _, _, .nil => ⟨[], [], [], rfl, rfl, rfl, .nil⟩
  | p :: ps, q :: qs, .cons h t => by
    obtain ⟨ks, xs, vs, rfl, rfl, h1, h2⟩ := KD.to t
    obtain ⟨k, d⟩ := p
    obtain ⟨k', v⟩ := q
    obtain ⟨e, r⟩ := h
    cases e
    exact ⟨k :: ks, d :: xs, v :: vs, rfl, rfl, by simp [h1], .cons r h2⟩
theorem Top.dct {kvs : List (Key × Dv)} (e : Ext F H) (h : Top K F H (.dct kvs) v) : ∃ a qs, v = .ref a ∧ H a = some (.dK qs) ∧ KD K F kvs qs := by
  rcases h with h | ⟨p, o, rfl, ho, h⟩
  · cases h with
    | dct h1 h2 h3 => exact ⟨_, _, rfl, e _ _ h1, KD.of h2 h3⟩
  · cases h with
    | dct h2 h3 => exact ⟨_, _, rfl, ho, KD.of h2 h3⟩
theorem RepO.ofD {kvs : List (Key × Dv)} {qs : List (Key × V)} (h : KD K F kvs qs) : RepO K F (.dct kvs) (.dK qs) := by
  obtain ⟨ks, xs, vs, rfl, rfl, h1, h2⟩ := KD.to h
  exact .dct h1 h2
theorem RepO.dctI {kvs : List (Key × Dv)} {o : HO} (h : RepO K F (.dct kvs) o) : ∃ qs, o = .dK qs ∧ KD K F kvs qs := by
  cases h with
  | dct a b => exact ⟨_, rfl, KD.of a b⟩
theorem RepO.lstI {xs : List Dv} {o : HO} (h : RepO K F (.lst xs) o) : ∃ vs, o = .lst vs ∧ Reps K F xs vs := by
  cases h with
  | lst a => exact ⟨_, rfl, a⟩
variable [DecidableEq κ]
def valD {α : Type} (kvs : List (κ × α)) (k : κ) : Option α := (kvs.find? fun kv => decide (kv.1 = k)).map (·.2)
def putD {α : Type} (kvs : List (κ × α)) (k : κ) (v : α) : List (κ × α) := if (kvs.any fun kv => decide (kv.1 = k)) = true then kvs.map (fun kv => if kv.1 = k then (kv.1, v) else kv) else kvs ++ [(k, v)]
def dropD {α : Type} (kvs : List (κ × α)) (k : κ) : List (κ × α) := kvs.filter fun kv => decide (kv.1 ≠ k)
theorem KD.val {ps : List (κ × Dv)} {qs : List (κ × V)} (h : KD K F ps qs) (k : κ) : (valD ps k = none ∧ valV qs k = none) ∨ ∃ d v, valD ps k = some d ∧ valV qs k = some v ∧ Rep K F d v := by
  induction h with
  | nil => exact .inl ⟨rfl, rfl⟩
  | @cons p q ps qs hr _ ih =>
    obtain ⟨e, r⟩ := hr
    unfold valD valV at ih ⊢
    rw [List.find?_cons, List.find?_cons, ← e]
    by_cases z : p.1 = k
    · rw [decide_eq_true z]
      exact .inr ⟨_, _, rfl, rfl, r⟩
    · rw [decide_eq_false z]
      exact ih
theorem KD.any {ps : List (κ × Dv)} {qs : List (κ × V)} (h : KD K F ps qs) (k : κ) : (ps.any fun kv => decide (kv.1 = k)) = qs.any fun kv => decide (kv.1 = k) := by
  induction h with
  | nil => rfl
  | cons hr _ ih => rw [List.any_cons, List.any_cons, ih, hr.1]
theorem KD.append {ps : List (κ × Dv)} {qs : List (κ × V)} (h : KD K F ps qs) {d : Dv} {v : V} (r : Rep K F d v) (k : κ) : KD K F (ps ++ [(k, d)]) (qs ++ [(k, v)]) := by
  induction h with
  | nil => exact .cons ⟨rfl, r⟩ .nil
  | cons hr _ ih => exact .cons hr ih
theorem KD.repl {ps : List (κ × Dv)} {qs : List (κ × V)} (h : KD K F ps qs) {d : Dv} {v : V} (r : Rep K F d v) (k : κ) : KD K F (ps.map fun kv => if kv.1 = k then (kv.1, d) else kv) (qs.map fun kv => if kv.1 = k then (kv.1, v) else kv) := by
  induction h with
  | nil => exact .nil
  | @cons p q ps qs hr _ ih =>
    refine .cons ?_ ih
    dsimp only
    rw [← hr.1]
    by_cases z : p.1 = k
    · rw [if_pos z, if_pos z]; exact ⟨rfl, r⟩
    · rw [if_neg z, if_neg z]; exact hr
theorem KD.put {ps : List (κ × Dv)} {qs : List (κ × V)} (h : KD K F ps qs) {d : Dv} {v : V} (r : Rep K F d v) (k : κ) : KD K F (putD ps k d) (putK qs k v) := by
  unfold putD putK
  rw [h.any k]
  split
  · exact h.repl r k
  · exact h.append r k
theorem KD.drop {ps : List (κ × Dv)} {qs : List (κ × V)} (h : KD K F ps qs) (k : κ) : KD K F (dropD ps k) (dropK qs k) := by
  unfold dropD dropK
  induction h with
  | nil => exact .nil
  | @cons p q ps qs hr _ ih =>
    rw [List.filter_cons, List.filter_cons, ← hr.1]
    by_cases z : p.1 = k
    · rw [decide_eq_false (fun y => y z)]; exact ih
    · rw [decide_eq_true z]; exact .cons hr ih
end

/-! ### names, constants -/
section
variable {X : Cx} {W : Wh} {a b c e : Expr} {pos : Pos}
def eV (i : Nat) : M RV := fun ρ => match ρ[i]? with
  | some (.val d) => .ok (.d d) ρ
  | some (.mu _ _) => .ok (.bor i) ρ
  | some (.ot _) => .ok (.bor i) ρ
  | _ => .bad
theorem se_var (i : Nat) {x : Str} (hN : X.N[i]? = some x := by rfl) (hv : Vis X.env.scope x := by first | exact Or.inl rfl | exact Or.inr (Or.inl rfl) | exact Or.inr (Or.inr rfl)) (hd : (x == ("__debug__" : Str)) = false := by decide)
    (hcd : (x == ("__classdict__" : Str)) = false := by decide) : SE X W (.Name x pos) (eV i) := by
  refine ⟨tVar i, pv i hN hv hd hcd, fun g hw F ρ σ H Q r z => ?_⟩
  unfold eV at z
  cases e : ρ[i]? with
  | none => simp only [e] at z; exact z.elim
  | some s =>
    simp only [e] at z
    cases s with
    | no => exact z.elim
    | exn => exact z.elim
    | ot t =>
      obtain ⟨v, R, h1, _⟩ := r.takeOt e
      exact ⟨v, h1, z v F H (Ext.refl F) r h1⟩
    | val d =>
      obtain ⟨v, h1, h2⟩ := r.val i d e
      exact ⟨v, h1, z v F H (Ext.refl F) r h2⟩
    | mu b d =>
      obtain ⟨p, o, h1, _⟩ := r.mu i b d e
      exact ⟨_, h1, z _ F H (Ext.refl F) r h1⟩
def eC (d : Dv) : M RV := pure (.d d)
theorem se_pure {d : Dv} {v : V} (h : PE X e (tC v)) (hr : ∀ F, Rep X.K F d v) : SE X W e (eC d) := ⟨tC v, h, fun g hw F ρ σ H Q r z => z v F H (Ext.refl F) r (hr F)⟩
theorem se_int {i j} : SE X W (.Constant (.int i) j pos) (eC (.int i)) := se_pure pe_int fun _ => .int i
theorem se_bl {i j} : SE X W (.Constant (.bool i) j pos) (eC (.bl i)) := se_pure pe_bl fun _ => .bl i
theorem se_str {i j} : SE X W (.Constant (.str i) j pos) (eC (.str i)) := se_pure pe_str fun _ => .str i
theorem se_non {j} : SE X W (.Constant .none j pos) (eC .non) := se_pure pe_non fun _ => .non
theorem se_glob {x : Str} {d : Dv} {v : V} {u : Value} (hg : Gl X x) (hm : X.mg x = some u) (r : RelV v u) (hr : ∀ F, Rep X.K F d v) (hd : (x == ("__debug__" : Str)) = false := by decide) : SE X W (.Name x pos) (eC d) := se_pure (pe_glob hg hm r hd) hr

/-! ### two operands -/
def b2 (p : Dv → Dv → M RV) (ma mb : M AV) : M RV := do
  let x ← ma
  let y ← mb
  let d ← con x
  let e ← con y
  p d e
def P2 (X : Cx) (r : R2) (p : Dv → Dv → M RV) : Prop := ∀ (g : Gx) (F : Hp) (ρ : VE) (σ : L2.St) (H : Hp) (x y : V) (dx dy : Dv) (Q : VK) (W : Wh), Rel X.K g F ρ σ H → Top X.K F H dx x → Top X.K F H dy y → RP (p dx dy ρ) (okE X g F σ Q) (exE X g F W) → r x y H Q
theorem s2 {r : R2} {p : Dv → Dv → M RV} {ma mb : M AV} (hp : P2 X r p) (ha : SF X W a ma) (hb : SF X W b mb) : ∃ ta tb, PE X a ta ∧ PE X b tb ∧ ∀ g, W.p g → ∀ F ρ σ H Q, Rel X.K g F ρ σ H → RP (b2 p ma mb ρ) (okE X g F σ Q) (exE X g F W) → tOp r ta tb σ H Q := by
  obtain ⟨ta, pa, qa⟩ := ha.ex
  obtain ⟨tb, pb, qb⟩ := hb.ex
  refine ⟨ta, tb, pa, pb, fun g hw F ρ σ H Q rel z => ?_⟩
  unfold b2 at z
  rw [RP_bnd] at z
  refine qa g hw F ρ σ H _ rel (z.imp (fun x ρ1 z1 => ?_) fun _ _ k => k)
  intro v F1 H1 e1 rel1 ok1
  rw [RP_bnd] at z1
  refine qb g hw F1 ρ1 σ H1 _ rel1 (z1.imp (fun y ρ2 z2 => ?_) fun _ _ k => k.ext e1)
  intro u F2 H2 e2 rel2 ok2
  rw [RP_bnd] at z2
  obtain ⟨dx, tx, z3⟩ := con_ok rel2 (ok1.mono e2) z2
  rw [RP_bnd] at z3
  obtain ⟨dy, ty, z4⟩ := con_ok rel2 ok2 z3
  exact hp g F2 ρ2 σ H2 v u dx dy Q W rel2 tx ty (z4.imp (fun _ _ k => k.ext (e1.trans e2)) fun _ _ k => k.ext (e1.trans e2))
theorem se_bin {op : Operator} {r : R2} {p : Dv → Dv → M RV} {ma mb : M AV} (ho : OpR X (binaryOp op) r) (hp : P2 X r p) (ha : SF X W a ma) (hb : SF X W b mb) : SE X W (.BinOp a op b pos) (b2 p ma mb) := by
  obtain ⟨ta, tb, pa, pb, q⟩ := s2 hp ha hb
  exact ⟨_, pe_op ho pa pb, q⟩
theorem se_cmp {op : CmpOp} {r : R2} {p : Dv → Dv → M RV} {ma mb : M AV} (ho : OpR X (compareOp op) r) (hp : P2 X r p) (ha : SF X W a ma) (hb : SF X W b mb) (hm : behindInMarks op b = false) : SE X W (.Compare a [op] [b] pos) (b2 p ma mb) := by
  obtain ⟨ta, tb, pa, pb, q⟩ := s2 hp ha hb
  exact ⟨_, pe_cmpR ho pa pb hm, q⟩
theorem se_ix {r : R2} {p : Dv → Dv → M RV} {ma mb : M AV} (hr : IxR X r) (hp : P2 X r p) (ha : SF X W a ma) (hb : SF X W b mb) (hs : PlainIx b) : SE X W (.Subscript a b pos) (b2 p ma mb) := by
  obtain ⟨ta, tb, pa, pb, q⟩ := s2 hp ha hb
  exact ⟨_, pe_ix hr pa pb hs, q⟩
/-- a test, of a value that is a bool -/
def toB (m : M RV) : M Bool := do
  let r ← m
  match r with
  | .d (.bl b) => pure b
  | _ => M.bad
theorem toB_ok {g : Gx} {F : Hp} {σ : L2.St} {m : M RV} {ρ : VE} {Q : Bool → Hp → Prop} {ex : Er → VE → Prop} (z : RP (toB m ρ) (okT X g F σ Q) ex) : RP (m ρ) (okE X g F σ fun x H' => ∃ k, x = .bl k ∧ Q k H') ex := by
  unfold toB at z
  rw [RP_bnd] at z
  refine z.imp (fun rv ρ' k => ?_) fun _ _ k => k
  intro v F' H' e1 r1 ok
  cases rv with
  | fr d => exact k.elim
  | bor i => exact k.elim
  | ow t => exact k.elim
  | d d =>
    cases d with
    | bl b =>
      cases ok
      exact ⟨b, rfl, k F' H' e1 r1⟩
    | _ => exact k.elim
theorem st_cmp {op : CmpOp} {r : R2} {p : Dv → Dv → M RV} {ma mb : M AV} (ho : OpR X (compareOp op) r) (hp : P2 X r p) (ha : SF X W a ma) (hb : SF X W b mb) (hm : behindInMarks op b = false) : STt X W (.Compare a [op] [b] pos) (toB (b2 p ma mb)) := by
  obtain ⟨ta, tb, pa, pb, q⟩ := s2 hp ha hb
  refine ⟨_, pt_cmpR ho pa pb hm, fun g hw F ρ σ H Q rel z => ?_⟩
  exact q g hw F ρ σ H _ rel (toB_ok z)
/-- a op b op' c -/
def e3 (p p' : Dv → Dv → M RV) (ma mb mc : M AV) : M RV := do
  let x ← ma
  let y ← mb
  let d ← con x
  let e ← con y
  let k ← toB (p d e)
  if k = true then do
    let w ← mc
    let e ← con y
    let f ← con w
    p' e f
  else pure (.d (.bl false))
theorem s3 {r r' : R2} {p p' : Dv → Dv → M RV} {ma mb mc : M AV} (hp : P2 X r p) (hp' : P2 X r' p') (ha : SF X W a ma) (hb : SF X W b mb) (hc : SF X W c mc) : ∃ ta tb tc, PE X a ta ∧ PE X b tb ∧ PE X c tc ∧ ∀ g, W.p g → ∀ F ρ σ H Q, Rel X.K g F ρ σ H → RP (e3 p p' ma mb mc ρ) (okE X g F σ Q) (exE X g F W) → tChain r r' ta tb tc σ H Q := by
  obtain ⟨ta, pa, qa⟩ := ha.ex
  obtain ⟨tb, pb, qb⟩ := hb.ex
  obtain ⟨tc, pc, qc⟩ := hc.ex
  refine ⟨ta, tb, tc, pa, pb, pc, fun g hw F ρ σ H Q rel z => ?_⟩
  unfold e3 at z
  rw [RP_bnd] at z
  refine qa g hw F ρ σ H _ rel (z.imp (fun x ρ1 z1 => ?_) fun _ _ k => k)
  intro v F1 H1 e1 rel1 ok1
  rw [RP_bnd] at z1
  refine qb g hw F1 ρ1 σ H1 _ rel1 (z1.imp (fun y ρ2 z2 => ?_) fun _ _ k => k.ext e1)
  intro u F2 H2 e2 rel2 ok2
  rw [RP_bnd] at z2
  obtain ⟨dx, tx, z3⟩ := con_ok rel2 (ok1.mono e2) z2
  rw [RP_bnd] at z3
  obtain ⟨dy, ty, z4⟩ := con_ok rel2 ok2 z3
  rw [RP_bnd] at z4
  refine hp g F2 ρ2 σ H2 v u dx dy _ W rel2 tx ty (toB_ok (z4.imp (fun k ρ3 z5 => ?_) fun _ _ k => k.ext (e1.trans e2)))
  intro F3 H3 f3 rel3
  cases k with
  | false => exact z5 (.bl false) F3 H3 ((e1.trans e2).trans f3) rel3 (.bl false)
  | true =>
    simp only [if_pos] at z5 ⊢
    rw [RP_bnd] at z5
    refine qc g hw F3 ρ3 σ H3 _ rel3 (z5.imp (fun w ρ4 z6 => ?_) fun _ _ k => k.ext ((e1.trans e2).trans f3))
    intro t F4 H4 e4 rel4 ok4
    rw [RP_bnd] at z6
    obtain ⟨dy', ty', z7⟩ := con_ok rel4 ((ok2.mono f3).mono e4) z6
    rw [RP_bnd] at z7
    obtain ⟨dw, tw, z8⟩ := con_ok rel4 ok4 z7
    exact hp' g F4 ρ4 σ H4 u t dy' dw Q W rel4 ty' tw (z8.imp (fun _ _ k => k.ext (((e1.trans e2).trans f3).trans e4)) fun _ _ k => k.ext (((e1.trans e2).trans f3).trans e4))
theorem se_chain {op op' : CmpOp} {r r' : R2} {p p' : Dv → Dv → M RV} {ma mb mc : M AV} (ho : OpR X (compareOp op) r) (ho' : OpR X (compareOp op') r') (hp : P2 X r p) (hp' : P2 X r' p') (ha : SF X W a ma) (hb : SF X W b mb) (hc : SF X W c mc)
    (hm : lastMarks [op, op'] [b, c] = false := by with_unfolding_all rfl) : SE X W (.Compare a [op, op'] [b, c] pos) (e3 p p' ma mb mc) := by
  obtain ⟨ta, tb, tc, pa, pb, pc, q⟩ := s3 hp hp' ha hb hc
  exact ⟨_, pe_chain ho ho' pa pb pc hm, q⟩
theorem st_chain {op op' : CmpOp} {r r' : R2} {p p' : Dv → Dv → M RV} {ma mb mc : M AV} (ho : OpR X (compareOp op) r) (ho' : OpR X (compareOp op') r') (hp : P2 X r p) (hp' : P2 X r' p') (ha : SF X W a ma) (hb : SF X W b mb) (hc : SF X W c mc)
    (hm : lastMarks [op, op'] [b, c] = false := by with_unfolding_all rfl) : STt X W (.Compare a [op, op'] [b, c] pos) (toB (e3 p p' ma mb mc)) := by
  obtain ⟨ta, tb, tc, pa, pb, pc, q⟩ := s3 hp hp' ha hb hc
  exact ⟨_, pt_chain ho ho' pa pb pc hm, fun g hw F ρ σ H Q rel z => q g hw F ρ σ H _ rel (toB_ok z)⟩

/-! ### one operand -/
def b1 (p : Dv → M RV) (ma : M AV) : M RV := do
  let x ← ma
  let d ← con x
  p d
theorem se_un {op : UnaryOp} {r : V → Hp → VK → Prop} {p : Dv → M RV} {ma : M AV} (ho : UnR X (unaryOp op) r)
    (hp : ∀ g F ρ σ H x dx Q W, Rel X.K g F ρ σ H → Top X.K F H dx x → RP (p dx ρ) (okE X g F σ Q) (exE X g F W) → r x H Q) (ha : SF X W a ma) : SE X W (.UnaryOp op a pos) (b1 p ma) := by
  obtain ⟨ta, pa, qa⟩ := ha.ex
  refine ⟨_, pe_un ho pa, fun g hw F ρ σ H Q rel z => ?_⟩
  unfold b1 at z
  rw [RP_bnd] at z
  refine qa g hw F ρ σ H _ rel (z.imp (fun x ρ1 z1 => ?_) fun _ _ k => k)
  intro v F1 H1 e1 rel1 ok1
  rw [RP_bnd] at z1
  obtain ⟨dx, tx, z2⟩ := con_ok rel1 ok1 z1
  exact hp g F1 ρ1 σ H1 v dx Q W rel1 tx (z2.imp (fun _ _ k => k.ext e1) fun _ _ k => k.ext e1)

/-! ### truth, and, or, not, if -/
def tru : Dv → M Bool
  | .non => pure false
  | .bl b => pure b
  | .int i => pure (i != 0)
  | .str x => do M.grd (x.length ≤ sizeLine); pure ((x.length : Int) != 0)
  | .lst xs => pure (!xs.isEmpty)
  | .rls xs => pure (!xs.isEmpty)
  | .tup xs => pure (!xs.isEmpty)
  | .dct kvs => pure (!kvs.isEmpty)
  | _ => M.bad
theorem isEmpty_reps {K : PySem.W.Frag} {F : Hp} {ds : List Dv} {vs : List V} (h : Reps K F ds vs) : (!ds.isEmpty) = !vs.isEmpty := by
  cases h <;> rfl
theorem isEmpty_kd {K : PySem.W.Frag} {F : Hp} {ds : List (Key × Dv)} {vs : List (Key × V)} (h : KD K F ds vs) : (!ds.isEmpty) = !vs.isEmpty := by
  cases h <;> rfl
theorem tru_tv {g : Gx} {F : Hp} {ρ : VE} {σ : L2.St} {H : Hp} {v : V} {d : Dv} {ok : Bool → VE → Prop} {ex : Er → VE → Prop} (rel : Rel X.K g F ρ σ H) (t : Top X.K F H d v) (z : RP (tru d ρ) ok ex) : ∃ k, TruV X.K v H k ∧ ok k ρ := by
  cases d with
  | non => rw [t.non]; exact ⟨false, rfl, z⟩
  | bl b => rw [t.bl]; exact ⟨b, rfl, z⟩
  | int i => rw [t.int]; exact ⟨_, rfl, z⟩
  | str x =>
    rw [t.str]
    unfold tru at z
    rw [RP_bnd] at z
    obtain ⟨h1, h2⟩ := RP_grd z
    exact ⟨_, ⟨h1, rfl⟩, h2⟩
  | lst xs =>
    obtain ⟨a, vs, rfl, h1, h2⟩ := t.lst rel.ext
    exact ⟨_, .inl ⟨vs, SqL.of h1, isEmpty_reps h2⟩, z⟩
  | rls xs =>
    obtain ⟨a, vs, rfl, h1, h2⟩ := t.rls rel.ext
    exact ⟨_, .inl ⟨vs, h1, isEmpty_reps h2⟩, z⟩
  | tup xs =>
    obtain ⟨a, vs, rfl, h1, h2⟩ := t.tup rel.ext
    exact ⟨_, .inr (.inl ⟨vs, h1, isEmpty_reps h2⟩), z⟩
  | dct kvs =>
    obtain ⟨a, vs, rfl, h1, h2⟩ := t.dct rel.ext
    exact ⟨_, .inr (.inr ⟨vs, h1, isEmpty_kd h2⟩), z⟩
  | _ => exact z.elim
def eT (ma : M AV) : M Bool := do
  let x ← ma
  let d ← con x
  tru d
theorem st_tru {ma : M AV} (ha : SF X W a ma) (he : ∀ whole, isTrue a X.env whole = (do let v ← whole; standAt a.pos; holding [v] (truthy v)) := by intro _; rfl) : STt X W a (eT ma) := by
  obtain ⟨ta, pa, qa⟩ := ha.ex
  refine ⟨_, pt_truth pa he, fun g hw F ρ σ H Q rel z => ?_⟩
  unfold eT at z
  rw [RP_bnd] at z
  refine qa g hw F ρ σ H _ rel (z.imp (fun x ρ1 z1 => ?_) fun _ _ k => k)
  intro v F1 H1 e1 rel1 ok1
  rw [RP_bnd] at z1
  obtain ⟨dx, tx, z2⟩ := con_ok rel1 ok1 z1
  obtain ⟨k, h1, h2⟩ := tru_tv rel1 tx z2
  exact ⟨k, h1, h2 F1 H1 e1 rel1⟩
def tNt (m : M Bool) : M Bool := do
  let b ← m
  pure (!b)
theorem st_not {m : M Bool} (h : STt X W a m) : STt X W (.UnaryOp .Not a pos) (tNt m) := by
  obtain ⟨t, p, q⟩ := h.ex
  refine ⟨_, pt_not p, fun g hw F ρ σ H Q rel z => ?_⟩
  unfold tNt at z
  rw [RP_bnd] at z
  exact q g hw F ρ σ H _ rel z
def tAn (m n : M Bool) : M Bool := do
  let b ← m
  if b = true then n else pure false
def tO (m n : M Bool) : M Bool := do
  let b ← m
  if b = true then pure true else n
theorem sw_and1 {m : M Bool} (h : STt X W a m) : SW X W (.BoolOp .And [a] pos) m := by
  obtain ⟨t, p, q⟩ := h.ex
  exact ⟨t, pw_and1 p, q⟩
theorem sw_or1 {m : M Bool} (h : STt X W a m) : SW X W (.BoolOp .Or [a] pos) m := by
  obtain ⟨t, p, q⟩ := h.ex
  exact ⟨t, pw_or1 p, q⟩
theorem sw_and {m n : M Bool} {rest : List Expr} (h : STt X W a m) (h' : SW X W (.BoolOp .And (b :: rest) pos) n) : SW X W (.BoolOp .And (a :: b :: rest) pos) (tAn m n) := by
  obtain ⟨t, p, q⟩ := h.ex
  obtain ⟨t', p', q'⟩ := h'.ex
  refine ⟨_, pw_and p p', fun g hw F ρ σ H Q rel z => ?_⟩
  unfold tAn at z
  rw [RP_bnd] at z
  refine q g hw F ρ σ H _ rel (z.imp (fun k ρ1 z1 => ?_) fun _ _ k => k)
  intro F1 H1 e1 rel1
  cases k with
  | true =>
    simp only [if_pos] at z1 ⊢
    exact q' g hw F1 ρ1 σ H1 Q rel1 (z1.imp (fun _ _ k => k.ext e1) fun _ _ k => k.ext e1)
  | false => exact z1 F1 H1 e1 rel1
theorem sw_or {m n : M Bool} {rest : List Expr} (h : STt X W a m) (h' : SW X W (.BoolOp .Or (b :: rest) pos) n) : SW X W (.BoolOp .Or (a :: b :: rest) pos) (tO m n) := by
  obtain ⟨t, p, q⟩ := h.ex
  obtain ⟨t', p', q'⟩ := h'.ex
  refine ⟨_, pw_or p p', fun g hw F ρ σ H Q rel z => ?_⟩
  unfold tO at z
  rw [RP_bnd] at z
  refine q g hw F ρ σ H _ rel (z.imp (fun k ρ1 z1 => ?_) fun _ _ k => k)
  intro F1 H1 e1 rel1
  cases k with
  | true => exact z1 F1 H1 e1 rel1
  | false =>
    simp only [Bool.false_eq_true, if_false] at z1 ⊢
    exact q' g hw F1 ρ1 σ H1 Q rel1 (z1.imp (fun _ _ k => k.ext e1) fun _ _ k => k.ext e1)
theorem SW.tt {m : M Bool} (h : SW X W a m) : STt X W a m := by
  obtain ⟨t, p, q⟩ := h.ex
  exact ⟨t, p.pt, q⟩
/-- and, or, not as values: bools but the last one -/
def eAn (m n : M RV) : M RV := do
  let b ← toB m
  if b = true then n else pure (.d (.bl false))
def eO (m n : M RV) : M RV := do
  let b ← toB m
  if b = true then pure (.d (.bl true)) else n
def eNt (m : M RV) : M RV := do
  let b ← toB m
  pure (.d (.bl (!b)))
theorem se_one {op} {m : M RV} (h : SE X W a m) : SE X W (.BoolOp op [a] pos) m := by
  obtain ⟨t, p, q⟩ := h.ex
  exact ⟨t, pe_one p, q⟩
theorem se_and {m n : M RV} {rest : List Expr} (h : SE X W a m) (h' : SE X W (.BoolOp .And (b :: rest) pos) n) : SE X W (.BoolOp .And (a :: b :: rest) pos) (eAn m n) := by
  obtain ⟨t, p, q⟩ := h.ex
  obtain ⟨t', p', q'⟩ := h'.ex
  refine ⟨_, pe_and p p', fun g hw F ρ σ H Q rel z => ?_⟩
  unfold eAn at z
  rw [RP_bnd] at z
  refine q g hw F ρ σ H _ rel (toB_ok (z.imp (fun k ρ1 z1 => ?_) fun _ _ k => k))
  intro F1 H1 e1 rel1
  cases k with
  | true =>
    simp only [if_pos] at z1 ⊢
    exact q' g hw F1 ρ1 σ H1 Q rel1 (z1.imp (fun _ _ k => k.ext e1) fun _ _ k => k.ext e1)
  | false => exact z1 _ F1 H1 e1 rel1 (.bl false)
theorem se_or {m n : M RV} {rest : List Expr} (h : SE X W a m) (h' : SE X W (.BoolOp .Or (b :: rest) pos) n) : SE X W (.BoolOp .Or (a :: b :: rest) pos) (eO m n) := by
  obtain ⟨t, p, q⟩ := h.ex
  obtain ⟨t', p', q'⟩ := h'.ex
  refine ⟨_, pe_or p p', fun g hw F ρ σ H Q rel z => ?_⟩
  unfold eO at z
  rw [RP_bnd] at z
  refine q g hw F ρ σ H _ rel (toB_ok (z.imp (fun k ρ1 z1 => ?_) fun _ _ k => k))
  intro F1 H1 e1 rel1
  cases k with
  | true => exact z1 _ F1 H1 e1 rel1 (.bl true)
  | false =>
    simp only [Bool.false_eq_true, if_false] at z1 ⊢
    exact q' g hw F1 ρ1 σ H1 Q rel1 (z1.imp (fun _ _ k => k.ext e1) fun _ _ k => k.ext e1)
theorem se_not {m : M RV} (h : SE X W a m) : SE X W (.UnaryOp .Not a pos) (eNt m) := by
  obtain ⟨t, p, q⟩ := h.ex
  refine ⟨_, pe_not p, fun g hw F ρ σ H Q rel z => ?_⟩
  unfold eNt at z
  rw [RP_bnd] at z
  refine q g hw F ρ σ H _ rel (toB_ok (z.imp (fun k ρ1 z1 => ?_) fun _ _ k => k))
  intro F1 H1 e1 rel1
  exact z1 _ F1 H1 e1 rel1 (.bl _)
def eIf (c : M Bool) (m n : M RV) : M RV := do
  let b ← c
  if b = true then m else n
theorem se_if {k : M Bool} {m n : M RV} (hc : STt X W c k) (h : SE X W a m) (h' : SE X W b n) : SE X W (.IfExp c a b pos) (eIf k m n) := by
  obtain ⟨t0, p0, q0⟩ := hc.ex
  obtain ⟨t, p, q⟩ := h.ex
  obtain ⟨t', p', q'⟩ := h'.ex
  refine ⟨_, pe_ifExp p0 p p', fun g hw F ρ σ H Q rel z => ?_⟩
  unfold eIf at z
  rw [RP_bnd] at z
  refine q0 g hw F ρ σ H _ rel (z.imp (fun k ρ1 z1 => ?_) fun _ _ k => k)
  intro F1 H1 e1 rel1
  cases k with
  | true =>
    simp only [if_pos] at z1 ⊢
    exact q g hw F1 ρ1 σ H1 Q rel1 (z1.imp (fun _ _ k => k.ext e1) fun _ _ k => k.ext e1)
  | false =>
    simp only [Bool.false_eq_true, if_false] at z1 ⊢
    exact q' g hw F1 ρ1 σ H1 Q rel1 (z1.imp (fun _ _ k => k.ext e1) fun _ _ k => k.ext e1)

/-! ### arguments, displays -/
def aN : M (List AV) := pure []
def aC (m : M AV) (r : M (List AV)) : M (List AV) := do
  let x ← m
  let xs ← r
  pure (x :: xs)
theorem sa_nil : SA X W [] aN := ⟨tNil, pa_nil, fun g hw F ρ σ H Q rel z => z [] F H (Ext.refl F) rel .nil⟩
theorem sa_cons {es : List Expr} {m : M AV} {r : M (List AV)} (h : SF X W e m) (hr : SA X W es r) (hs : starEach (e :: es) X.env = (false, eval e X.env) :: starEach es X.env := by rfl) : SA X W (e :: es) (aC m r) := by
  obtain ⟨t, p, q⟩ := h.ex
  obtain ⟨t', p', q'⟩ := hr.ex
  refine ⟨_, pa_cons p p' hs, fun g hw F ρ σ H Q rel z => ?_⟩
  unfold aC at z
  rw [RP_bnd] at z
  refine q g hw F ρ σ H _ rel (z.imp (fun x ρ1 z1 => ?_) fun _ _ k => k)
  intro v F1 H1 e1 rel1 ok1
  rw [RP_bnd] at z1
  refine q' g hw F1 ρ1 σ H1 _ rel1 (z1.imp (fun xs ρ2 z2 => ?_) fun _ _ k => k.ext e1)
  intro vs F2 H2 e2 rel2 ok2
  exact z2 (v :: vs) F2 H2 (e1.trans e2) rel2 (.cons (ok1.mono e2) ok2)
def conL : List AV → M (List Dv)
  | [] => pure []
  | a :: as => do
    let d ← con a
    let ds ← conL as
    pure (d :: ds)
def aliL : List AV → M (List Dv)
  | [] => pure []
  | a :: as => do
    let d ← ali a
    let ds ← aliL as
    pure (d :: ds)
section
variable {K : PySem.W.Frag} {g : Gx} {H : Hp} {σ : L2.St}
theorem conL_ok : ∀ {as : List AV} {vs : List V} {F : Hp} {ρ : VE} {ok : List Dv → VE → Prop} {ex : Er → VE → Prop}, Rel K g F ρ σ H → Paired (AvOk K F σ) as vs → RP (conL as ρ) ok ex → ∃ ds, Paired (Top K F H) ds vs ∧ ok ds ρ
  | [], _, _, _, _, _, _, .nil, z => ⟨[], .nil, z⟩
  | a :: as, v :: vs, F, ρ, ok, ex, r, .cons h t, z => by
    unfold conL at z
    rw [RP_bnd] at z
    obtain ⟨d, h1, z1⟩ := con_ok r h z
    rw [RP_bnd] at z1
    obtain ⟨ds, h2, z2⟩ := conL_ok r t z1
    exact ⟨d :: ds, .cons h1 h2, z2⟩
theorem aliL_ok : ∀ {as : List AV} {vs : List V} {F : Hp} {ρ : VE} {ok : List Dv → VE → Prop} {ex : Er → VE → Prop}, Rel K g F ρ σ H → Paired (AvOk K F σ) as vs → RP (aliL as ρ) ok ex → ∃ ds F' ρ', Ext F F' ∧ Rel K g F' ρ' σ H ∧ Reps K F' ds vs ∧ ok ds ρ'
  | [], _, F, ρ, _, _, r, .nil, z => ⟨[], F, ρ, Ext.refl F, r, .nil, z⟩
  | a :: as, v :: vs, F, ρ, ok, ex, r, .cons h t, z => by
    unfold aliL at z
    rw [RP_bnd] at z
    obtain ⟨d, F1, ρ1, e1, r1, h1, z1⟩ := ali_ok r h z
    rw [RP_bnd] at z1
    obtain ⟨ds, F2, ρ2, e2, r2, h2, z2⟩ := aliL_ok r1 (L2.Paired.mapP t fun a b k => k.mono e1) z1
    exact ⟨d :: ds, F2, ρ2, e1.trans e2, r2, .cons (h1.mono e2) h2, z2⟩
end
/-- a display -/
def eLst (m : M (List AV)) : M RV := do
  let as ← m
  let ds ← aliL as
  M.grd (ds.length ≤ sizeLine)
  pure (.fr (.lst ds))
def eTup (m : M (List AV)) : M RV := do
  let as ← m
  let ds ← aliL as
  M.grd (ds.length ≤ sizeLine)
  pure (.d (.tup ds))
theorem se_lst {es : List Expr} {m : M (List AV)} (h : SA X W es m) : SE X W (.List es pos) (eLst m) := by
  obtain ⟨t, p, q⟩ := h.ex
  refine ⟨_, pe_lst p, fun g hw F ρ σ H Q rel z => ?_⟩
  unfold eLst at z
  rw [RP_bnd] at z
  refine q g hw F ρ σ H _ rel (z.imp (fun as ρ1 z1 => ?_) fun _ _ k => k)
  intro vs F1 H1 e1 rel1 ok1
  rw [RP_bnd] at z1
  obtain ⟨ds, F2, ρ2, e2, r2, h2, z2⟩ := aliL_ok rel1 ok1 z1
  rw [RP_bnd] at z2
  obtain ⟨hl, z3⟩ := RP_grd z2
  refine ⟨by rw [← h2.length]; exact hl, fun p hp => ?_⟩
  exact z3 (.ref p) F2 _ (e1.trans e2) (r2.alloc hp) (r2.fresh hp (.lst h2))
theorem se_tup {es : List Expr} {m : M (List AV)} {x1} (h : SA X W es m) : SE X W (.Tuple es x1 pos) (eTup m) := by
  obtain ⟨t, p, q⟩ := h.ex
  refine ⟨_, pe_tup p, fun g hw F ρ σ H Q rel z => ?_⟩
  unfold eTup at z
  rw [RP_bnd] at z
  refine q g hw F ρ σ H _ rel (z.imp (fun as ρ1 z1 => ?_) fun _ _ k => k)
  intro vs F1 H1 e1 rel1 ok1
  rw [RP_bnd] at z1
  obtain ⟨ds, F2, ρ2, e2, r2, h2, z2⟩ := aliL_ok rel1 ok1 z1
  rw [RP_bnd] at z2
  obtain ⟨hl, z3⟩ := RP_grd z2
  refine ⟨by rw [← h2.length]; exact hl, fun p hp => ?_⟩
  have hF := r2.ext.none hp
  exact z3 (.ref p) _ _ ((e1.trans e2).trans (ext_upd hF)) ((r2.allocH hp).freeze (r2.freeH0 hp) (r2.noHeld hp)) (.tup (SqT.of upd_same) (h2.mono (ext_upd hF)))
/-- {} -/
def eDct : M RV := pure (.fr (.dct []))
theorem se_dct : SE X W (.Dict [] [] pos) eDct := ⟨_, pe_dnewK, fun g hw F ρ σ H Q rel z p hp => z (.ref p) F _ (Ext.refl F) (rel.alloc hp) (rel.fresh hp (.dct (ks := []) (xs := []) (vs := []) rfl .nil))⟩

/-! ### slices -/
def oN : M (Option AV) := pure none
def oS (m : M AV) : M (Option AV) := do
  let a ← m
  pure (some a)
def conI : Option AV → M (Option Int)
  | none => pure none
  | some a => do
    let d ← con a
    match d with
    | .int i => pure (some i)
    | _ => M.bad
structure SO (X : Cx) (W : Wh) (e : Option Expr) (m : M (Option Int)) : Prop where
  ex : ∃ t, PO X e t ∧ ∀ g, W.p g → ∀ F ρ σ H Q, Rel X.K g F ρ σ H → RP (m ρ) (fun o ρ' => ∀ F' H', Ext F F' → Rel X.K g F' ρ' σ H' → Q o H') (exE X g F W) → t σ H Q
def oI (m : M AV) : M (Option Int) := do
  let a ← m
  let d ← con a
  match d with
  | .int i => pure (some i)
  | _ => M.bad
def oO : M (Option Int) := pure none
theorem so_none : SO X W none oO := ⟨tNoPart, po_none, fun g hw F ρ σ H Q rel z => z F H (Ext.refl F) rel⟩
theorem so_some {m : M AV} (h : SF X W e m) : SO X W (some e) (oI m) := by
  obtain ⟨t, p, q⟩ := h.ex
  refine ⟨_, po_some p, fun g hw F ρ σ H Q rel z => ?_⟩
  unfold oI at z
  rw [RP_bnd] at z
  refine q g hw F ρ σ H _ rel (z.imp (fun a ρ1 z1 => ?_) fun _ _ k => k)
  intro v F1 H1 e1 rel1 ok1
  rw [RP_bnd] at z1
  obtain ⟨d, h1, z2⟩ := con_ok rel1 ok1 z1
  cases d with
  | int i => exact ⟨i, h1.int, z2 F1 H1 e1 rel1⟩
  | _ => exact z2.elim
/-- xs[lo:hi] -/
def cut {α : Type} (xs : List α) (lo hi : Option Int) : List α := (xs.drop (HT.sIx xs.length 0 lo)).take (HT.sIx xs.length xs.length hi - HT.sIx xs.length 0 lo)
theorem Reps.cut {K : PySem.W.Frag} {F : Hp} {ds : List Dv} {vs : List V} (h : Reps K F ds vs) (lo hi : Option Int) : Reps K F (P0.cut ds lo hi) (cutV vs lo hi) := by
  unfold P0.cut cutV
  rw [h.length]
  exact (h.drop _).take _
def pSl (d : Dv) (lo hi : Option Int) : M RV := match d with
  | .lst xs => pure (.fr (.lst (cut xs lo hi)))
  | .rls xs => pure (.fr (.lst (cut xs lo hi)))
  | .tup xs => do
    M.grd (¬ (HT.sIx xs.length 0 lo = 0 ∧ HT.sIx xs.length xs.length hi = xs.length))
    pure (.d (.tup (cut xs lo hi)))
  | .str x => do
    M.grd (x.length ≤ sizeLine)
    pure (.d (.str (cutS x lo hi)))
  | _ => M.bad
def eSl (ma : M AV) (ml mh : M (Option Int)) : M RV := do
  let x ← ma
  let lo ← ml
  let hi ← mh
  let d ← con x
  pSl d lo hi
end
end P0
end
section
set_option Elab.async false
set_option linter.all false
set_option maxRecDepth 100000
set_option maxHeartbeats 4000000
/-! P0, operators by values. -/
namespace P0
open PySem PySem.Spec L2
open PyProof.Rows hiding St

/-! ### plain data -/
mutual
def toPy : Dv → PyData
  | .non => .none
  | .bl b => .bool b
  | .int i => .int i
  | .str x => .str x
  | .lst xs => .list (toPys xs)
  | .rls xs => .list (toPys xs)
  | .tup xs => .tuple (toPys xs)
  | .cl _ => .none
  | .dct _ => .none
  | .dcT _ => .none
  | .ins _ _ => .none
def toPys : List Dv → List PyData
  | [] => []
  | d :: ds => toPy d :: toPys ds
end
mutual
/-- plain data: texts of true signs, lists, tuples -/
def isDt : Dv → Bool
  | .non => true
  | .bl _ => true
  | .int _ => true
  | .str x => PyData.strOk x
  | .lst xs => isDts xs
  | .rls xs => isDts xs
  | .tup xs => isDts xs
  | .cl _ => false
  | .dct _ => false
  | .dcT _ => false
  | .ins _ _ => false
def isDts : List Dv → Bool
  | [] => true
  | d :: ds => isDt d && isDts ds
end
mutual
def dpD : Dv → Nat
  | .lst xs => dpDs xs + 1
  | .rls xs => dpDs xs + 1
  | .tup xs => dpDs xs + 1
  | .non => 0
  | .bl _ => 0
  | .int _ => 0
  | .str _ => 0
  | .cl _ => 0
  | .dct _ => 0
  | .dcT _ => 0
  | .ins _ _ => 0
def dpDs : List Dv → Nat
  | [] => 0
  | d :: ds => max (dpD d) (dpDs ds)
end
theorem toPys_map : ∀ ds : List Dv, toPys ds = ds.map toPy
  | [] => rfl
  | d :: ds => by rw [toPys, List.map_cons, toPys_map ds]
mutual
theorem canLay_toPy : ∀ d : Dv, isDt d = true → (toPy d).canLay0 = true
  | .non, _ => rfl
  | .bl _, _ => rfl
  | .int _, _ => rfl
  | .str x, h => by simpa [toPy, PyData.canLay0, isDt] using h
  | .lst xs, h => by
    rw [toPy, PyData.canLay0]
    exact canLay_toPys xs (by simpa [isDt] using h)
  | .rls xs, h => by
    rw [toPy, PyData.canLay0]
    exact canLay_toPys xs (by simpa [isDt] using h)
  | .tup xs, h => by
    rw [toPy, PyData.canLay0]
    exact canLay_toPys xs (by simpa [isDt] using h)
  | .cl _, h => by simp [isDt] at h
  | .dct _, h => by simp [isDt] at h
  | .dcT _, h => by simp [isDt] at h
  | .ins _ _, h => by simp [isDt] at h
theorem canLay_toPys : ∀ ds : List Dv, isDts ds = true → PyData.canLayAll0 (toPys ds) = true
  | [], _ => rfl
  | d :: ds, h => by
    rw [isDts, Bool.and_eq_true] at h
    rw [toPys, PyData.canLayAll0, canLay_toPy d h.1, canLay_toPys ds h.2]; rfl
end
mutual
theorem depth_toPy : ∀ d : Dv, (toPy d).depth = dpD d
  | .non => rfl
  | .bl _ => rfl
  | .int _ => rfl
  | .str x => rfl
  | .lst xs => by rw [toPy, dpD, PyData.depth, depth_toPys xs]
  | .rls xs => by rw [toPy, dpD, PyData.depth, depth_toPys xs]
  | .tup xs => by rw [toPy, dpD, PyData.depth, depth_toPys xs]
  | .cl _ => rfl
  | .dct _ => rfl
  | .dcT _ => rfl
  | .ins _ _ => rfl
theorem depth_toPys : ∀ ds : List Dv, PyData.depthAll (toPys ds) = dpDs ds
  | [] => rfl
  | d :: ds => by rw [toPys, dpDs, PyData.depthAll, depth_toPy d, depth_toPys ds]
end
def eqable (d : Dv) : Bool := isDt d && decide (dpD d ≤ 60)
theorem shaped_toPy {d : Dv} (h : eqable d = true) : SeqAt.shaped (toPy d) = true := by
  unfold eqable at h
  rw [Bool.and_eq_true] at h
  unfold SeqAt.shaped
  rw [canLay_toPy d h.1, depth_toPy, decide_eq_true (Nat.le_trans (of_decide_eq_true h.2) (by decide : 60 ≤ 64))]
  rfl
section
variable {K : PySem.W.Frag} {F H : Hp}
theorem Rep.dp (e : Ext F H) {d : Dv} {v : V} (h : Rep K F d v) : isDt d = true → Dp K H v (toPy d) :=
  Rep.rec (motive_1 := fun d v _ => isDt d = true → Dp K H v (toPy d)) (motive_2 := fun ds vs _ => isDts ds = true → DpAll K H vs (toPys ds))
    (fun _ => .non) (fun b _ => .bl b) (fun i _ => .int i) (fun x _ => .str x) (fun v h => by simp [isDt] at h)
    (fun h _ ih k => by rw [toPy]; exact .lst (SqL.of (e _ _ h)) (ih (by simpa [isDt] using k)))
    (fun h _ ih k => by rw [toPy]; exact .lst (SqL.ext e h) (ih (by simpa [isDt] using k)))
    (fun h _ ih k => by rw [toPy]; exact .tup (SqT.ext e h) (ih (by simpa [isDt] using k)))
    (fun _ _ _ _ k => by simp [isDt] at k) (fun _ _ _ _ k => by simp [isDt] at k) (fun _ _ _ _ k => by simp [isDt] at k)
    (fun _ => .nil) (fun _ _ a b k => by
      rw [isDts, Bool.and_eq_true] at k
      rw [toPys]
      exact .cons (a k.1) (b k.2)) h
theorem Reps.dp (e : Ext F H) : ∀ {ds : List Dv} {vs : List V}, Reps K F ds vs → isDts ds = true → DpAll K H vs (toPys ds)
  | _, _, .nil, _ => .nil
  | _, _, .cons a b, k => by
    rw [isDts, Bool.and_eq_true] at k
    rw [toPys]
    exact .cons (a.dp e k.1) (b.dp e k.2)
theorem Top.dp (e : Ext F H) {d : Dv} {v : V} (h : Top K F H d v) (k : isDt d = true) : Dp K H v (toPy d) := by
  rcases h with h | ⟨p, o, rfl, ho, h⟩
  · exact h.dp e k
  · cases h with
    | lst h => rw [toPy]; exact .lst (SqL.of ho) (h.dp e (by simpa [isDt] using k))
    | dct _ _ => simp [isDt] at k
    | dcT _ _ => simp [isDt] at k
end

/-! ### flat things -/
def flatD : Dv → Bool
  | .non => true
  | .bl _ => true
  | .int _ => true
  | .str _ => true
  | _ => false
/-- == of flat things -/
def eqD : Dv → Dv → Bool
  | .non, .non => true
  | .bl a, .bl b => a == b
  | .bl a, .int b => (if a then 1 else 0) == b
  | .int a, .bl b => a == (if b then 1 else 0)
  | .int a, .int b => a == b
  | .str a, .str b => a == b
  | _, _ => false
section
variable {K : PySem.W.Frag} {F : Hp}
theorem Rep.flat {d : Dv} {v : V} (h : Rep K F d v) (f : flatD d = true) : flatV v = true := by
  cases h <;> first | rfl | (simp [flatD] at f)
theorem Rep.eqF {d e : Dv} {v u : V} (h : Rep K F d v) (k : Rep K F e u) (f : flatD d = true) (f' : flatD e = true) : eqV v u = eqD d e := by
  cases h <;> first | (simp [flatD] at f; done) | (cases k <;> first | rfl | (simp [flatD] at f'; done))
theorem Reps.flat : ∀ {ds : List Dv} {vs : List V}, Reps K F ds vs → ds.all flatD = true → vs.all flatV = true
  | _, _, .nil, _ => rfl
  | _, _, .cons a b, k => by
    rw [List.all_cons, Bool.and_eq_true] at k ⊢
    exact ⟨a.flat k.1, b.flat k.2⟩
theorem Reps.inV {e : Dv} {u : V} (k : Rep K F e u) (f' : flatD e = true) : ∀ {ds : List Dv} {vs : List V}, Reps K F ds vs → ds.all flatD = true → L2.inV u vs = ds.any fun d => eqD d e
  | _, _, .nil, _ => rfl
  | _, _, .cons a b, f => by
    rw [List.all_cons, Bool.and_eq_true] at f
    unfold L2.inV
    rw [List.any_cons, List.any_cons, a.eqF k f.1 f']
    rw [show (List.any _ fun y => eqV y u) = L2.inV u _ from rfl, Reps.inV k f' b f.2]
theorem Top.flat {H : Hp} {d : Dv} {v : V} (h : Top K F H d v) (f : flatD d = true) : Rep K F d v := by
  rcases h with h | ⟨p, o, rfl, ho, h⟩
  · exact h
  · cases h <;> simp [flatD] at f
end

section
variable {X : Cx}
/-! ### + - * // % ** -/
def pAdd : Dv → Dv → M RV
  | .int i, .int j => pure (.d (.int (i + j)))
  | .lst xs, .lst ys => do
    M.grd (xs.length + ys.length ≤ sizeLine)
    pure (.fr (.lst (xs ++ ys)))
  | .str x, .str y => do
    M.grd (x.length + y.length ≤ sizeLine)
    pure (.d (.str (x ++ y)))
  | .tup xs, .tup ys => do
    M.grd (xs ≠ [] ∧ ys ≠ [] ∧ xs.length + ys.length ≤ sizeLine)
    pure (.d (.tup (xs ++ ys)))
  | _, _ => M.bad
def rPlus (K : PySem.W.Frag) : R2 := fun x y H Q => (rI0 fun i j => V.int (i + j)) x y H Q ∨ rCat x y H Q ∨ (∃ i j, x = .str i ∧ y = .str j ∧ i.length + j.length ≤ sizeLine ∧ Q (.str (i ++ j)) H) ∨ rCatT K x y H Q
theorem op_plus : OpR X (binaryOp .Add) (rPlus X.K) := op_add.or (op_cat.or (op_add_str.or op_catT))
section
variable {g : Gx} {F H : Hp} {ρ : VE} {σ : L2.St} {Q : VK} {xs : List Dv} {vs : List V} {p : Addr}
theorem newLst (rel : Rel X.K g F ρ σ H) (h : Reps X.K F xs vs) (z : okE X g F σ Q (.fr (.lst xs)) ρ) (hp : H p = none) : Q (.ref p) (upd H p (.lst vs)) := z (.ref p) F _ (Ext.refl F) (rel.alloc hp) (rel.fresh hp (.lst h))
theorem newTup (rel : Rel X.K g F ρ σ H) (h : Reps X.K F xs vs) (z : okE X g F σ Q (.d (.tup xs)) ρ) (hp : H p = none) : Q (.ref p) (upd H p (.tup vs)) :=
  z (.ref p) _ _ (ext_upd (rel.ext.none hp)) ((rel.allocH hp).freeze (rel.freeH0 hp) (rel.noHeld hp)) (.tup (SqT.of upd_same) (h.mono (ext_upd (rel.ext.none hp))))
end
theorem Reps.ne_nil {K : PySem.W.Frag} {F : Hp} {ds : List Dv} {vs : List V} (h : Reps K F ds vs) (n : ds ≠ []) : vs ≠ [] := by
  cases h with
  | nil => exact absurd rfl n
  | cons a b => intro z; cases z
theorem p_add : P2 X (rPlus X.K) pAdd := by
  intro g F ρ σ H x y dx dy Q W rel tx ty z
  have K : (rI0 fun i j => V.int (i + j)) x y H Q ∨ rCat x y H Q ∨ (∃ i j, x = .str i ∧ y = .str j ∧ i.length + j.length ≤ sizeLine ∧ Q (.str (i ++ j)) H) ∨ rCatT X.K x y H Q := by
    unfold pAdd at z
    split at z
    · exact .inl ⟨_, _, tx.int, ty.int, z _ F H (Ext.refl F) rel (.int _)⟩
    · rw [RP_bnd] at z
      obtain ⟨hl, z⟩ := RP_grd z
      obtain ⟨a, vs, rfl, h1, h2⟩ := tx.lst rel.ext
      obtain ⟨b, us, rfl, k1, k2⟩ := ty.lst rel.ext
      exact .inr (.inl ⟨a, b, vs, us, rfl, rfl, h1, k1, by rw [← h2.length, ← k2.length]; exact hl, fun p hp => newLst rel (h2.append k2) z hp⟩)
    · rw [RP_bnd] at z
      obtain ⟨hl, z⟩ := RP_grd z
      exact .inr (.inr (.inl ⟨_, _, tx.str, ty.str, hl, z _ F H (Ext.refl F) rel (.str _)⟩))
    · rw [RP_bnd] at z
      obtain ⟨⟨n1, n2, hl⟩, z⟩ := RP_grd z
      obtain ⟨a, vs, rfl, h1, h2⟩ := tx.tup rel.ext
      obtain ⟨b, us, rfl, k1, k2⟩ := ty.tup rel.ext
      exact .inr (.inr (.inr ⟨a, b, vs, us, rfl, rfl, h1, k1, h2.ne_nil n1, by rw [← h2.length, ← k2.length]; exact hl, fun q => absurd q (k2.ne_nil n2), fun _ p hp => newTup rel (h2.append k2) z hp⟩))
    · exact z.elim
  exact K
def pSub : Dv → Dv → M RV
  | .int i, .int j => pure (.d (.int (i - j)))
  | _, _ => M.bad
theorem p_sub : P2 X (rI0 fun i j => .int (i - j)) pSub := by
  intro g F ρ σ H x y dx dy Q W rel tx ty z
  unfold pSub at z
  split at z
  · exact ⟨_, _, tx.int, ty.int, z _ F H (Ext.refl F) rel (.int _)⟩
  · exact z.elim
instance {i j : Int} : Decidable (CMulW i j) := by unfold CMulW; infer_instance
instance {i j : Int} : Decidable (CDivW i j) := by unfold CDivW; infer_instance
instance {i j : Int} : Decidable (CPow i j) := by unfold CPow; infer_instance
def pMul : Dv → Dv → M RV
  | .int i, .int j => do
    M.grd (CMulW i j)
    pure (.d (.int (i * j)))
  | .lst xs, .int k => do
    M.grd (-(2 ^ 63) ≤ k ∧ k < 2 ^ 63 ∧ xs.length * k.toNat ≤ sizeLine)
    pure (.fr (.lst (List.replicate k.toNat xs).flatten))
  | _, _ => M.bad
def rTimes : R2 := fun x y H Q => (rI CMulW fun i j => V.int (i * j)) x y H Q ∨ rRep x y H Q
theorem op_times : OpR X (binaryOp .Mult) rTimes := op_mulW.or op_rep
theorem p_mul : P2 X rTimes pMul := by
  intro g F ρ σ H x y dx dy Q W rel tx ty z
  have K : (rI CMulW fun i j => V.int (i * j)) x y H Q ∨ rRep x y H Q := by
    unfold pMul at z
    split at z
    · rw [RP_bnd] at z
      obtain ⟨hl, z⟩ := RP_grd z
      exact .inl ⟨_, _, tx.int, ty.int, hl, z _ F H (Ext.refl F) rel (.int _)⟩
    · rw [RP_bnd] at z
      obtain ⟨⟨n1, n2, hl⟩, z⟩ := RP_grd z
      obtain ⟨a, vs, rfl, h1, h2⟩ := tx.lst rel.ext
      exact .inr ⟨a, _, vs, rfl, ty.int, h1, n1, n2, by rw [← h2.length]; exact hl, fun p hp => newLst rel (h2.rep _) z hp⟩
    · exact z.elim
  exact K
def pDiv : Dv → Dv → M RV
  | .int i, .int j => do
    M.grd (CDivW i j)
    pure (.d (.int (i / j)))
  | _, _ => M.bad
theorem p_div : P2 X (rI CDivW fun i j => .int (i / j)) pDiv := by
  intro g F ρ σ H x y dx dy Q W rel tx ty z
  unfold pDiv at z
  split at z
  · rw [RP_bnd] at z
    obtain ⟨hl, z⟩ := RP_grd z
    exact ⟨_, _, tx.int, ty.int, hl, z _ F H (Ext.refl F) rel (.int _)⟩
  · exact z.elim
def pMod : Dv → Dv → M RV
  | .int i, .int j => do
    M.grd (0 < j)
    pure (.d (.int (i % j)))
  | _, _ => M.bad
theorem p_mod : P2 X (rI (fun _ j => 0 < j) fun i j => .int (i % j)) pMod := by
  intro g F ρ σ H x y dx dy Q W rel tx ty z
  unfold pMod at z
  split at z
  · rw [RP_bnd] at z
    obtain ⟨hl, z⟩ := RP_grd z
    exact ⟨_, _, tx.int, ty.int, hl, z _ F H (Ext.refl F) rel (.int _)⟩
  · exact z.elim
def pPow : Dv → Dv → M RV
  | .int i, .int j => do
    M.grd (CPow i j)
    pure (.d (.int (i ^ j.toNat)))
  | _, _ => M.bad
theorem p_pow : P2 X (rI CPow fun i j => .int (i ^ j.toNat)) pPow := by
  intro g F ρ σ H x y dx dy Q W rel tx ty z
  unfold pPow at z
  split at z
  · rw [RP_bnd] at z
    obtain ⟨hl, z⟩ := RP_grd z
    exact ⟨_, _, tx.int, ty.int, hl, z _ F H (Ext.refl F) rel (.int _)⟩
  · exact z.elim

/-! ### comparisons -/
def pOrd (f : Int → Int → Bool) : Dv → Dv → M RV
  | .int i, .int j => pure (.d (.bl (f i j)))
  | _, _ => M.bad
theorem p_ord {f : Int → Int → Bool} : P2 X (rI0 fun i j => .bl (f i j)) (pOrd f) := by
  intro g F ρ σ H x y dx dy Q W rel tx ty z
  unfold pOrd at z
  split at z
  · exact ⟨_, _, tx.int, ty.int, z _ F H (Ext.refl F) rel (.bl _)⟩
  · exact z.elim
/-- == -/
def pEqB : Dv → Dv → M Bool
  | .int i, .int j => pure (decide (i = j))
  | .str i, .str j => pure (decide (i = j))
  | .bl i, .bl j => pure (decide (i = j))
  | d, e => do
    M.grd (eqable d = true ∧ eqable e = true)
    pure (PyData.eqv (toPy d) (toPy e))
def pEq (d e : Dv) : M RV := do
  let b ← pEqB d e
  pure (.d (.bl b))
def pNe (d e : Dv) : M RV := do
  let b ← pEqB d e
  pure (.d (.bl (!b)))
theorem pEqB_ok {K : PySem.W.Frag} {g : Gx} {F : Hp} {ρ : VE} {σ : L2.St} {H : Hp} {x y : V} {dx dy : Dv} {ok : Bool → VE → Prop} {ex : Er → VE → Prop} (rel : Rel K g F ρ σ H) (tx : Top K F H dx x) (ty : Top K F H dy y) (z : RP (pEqB dx dy ρ) ok ex) :
    (∃ b, scal x y = true ∧ b = decide (x = y) ∧ ok b ρ) ∨ ∃ d e, Dp K H x d ∧ Dp K H y e ∧ SeqAt.shaped d = true ∧ SeqAt.shaped e = true ∧ ok (PyData.eqv d e) ρ := by
  unfold pEqB at z
  split at z
  · obtain rfl := tx.int
    obtain rfl := ty.int
    refine .inl ⟨_, rfl, ?_, z⟩
    exact decide_eq_decide.mpr ⟨fun h => by rw [h], fun h => V.int.inj h⟩
  · obtain rfl := tx.str
    obtain rfl := ty.str
    refine .inl ⟨_, rfl, ?_, z⟩
    exact decide_eq_decide.mpr ⟨fun h => by rw [h], fun h => V.str.inj h⟩
  · obtain rfl := tx.bl
    obtain rfl := ty.bl
    refine .inl ⟨_, rfl, ?_, z⟩
    exact decide_eq_decide.mpr ⟨fun h => by rw [h], fun h => V.bl.inj h⟩
  · rw [RP_bnd] at z
    obtain ⟨⟨h1, h2⟩, z⟩ := RP_grd z
    have i1 : isDt dx = true := by unfold eqable at h1; rw [Bool.and_eq_true] at h1; exact h1.1
    have i2 : isDt dy = true := by unfold eqable at h2; rw [Bool.and_eq_true] at h2; exact h2.1
    exact .inr ⟨_, _, tx.dp rel.ext i1, ty.dp rel.ext i2, shaped_toPy h1, shaped_toPy h2, z⟩
theorem op_equ (hu : X.A.units + 64 < cLine) : OpR X (compareOp .Eq) (fun x y H Q => rEq x y H Q ∨ rEqD X.K x y H Q) := op_eq.or (op_eqD hu)
theorem op_neq (hu : X.A.units + 64 < cLine) : OpR X (compareOp .NotEq) (fun x y H Q => rNe x y H Q ∨ rNeD X.K x y H Q) := op_ne.or (op_neD hu)
theorem p_eq : P2 X (fun x y H Q => rEq x y H Q ∨ rEqD X.K x y H Q) pEq := by
  intro g F ρ σ H x y dx dy Q W rel tx ty z
  unfold pEq at z
  rw [RP_bnd] at z
  rcases pEqB_ok rel tx ty z with ⟨b, h1, rfl, h3⟩ | ⟨d, e, h1, h2, h3, h4, h5⟩
  · exact .inl ⟨h1, h3 _ F H (Ext.refl F) rel (.bl _)⟩
  · exact .inr ⟨d, e, h1, h2, h3, h4, h5 _ F H (Ext.refl F) rel (.bl _)⟩
theorem p_ne : P2 X (fun x y H Q => rNe x y H Q ∨ rNeD X.K x y H Q) pNe := by
  intro g F ρ σ H x y dx dy Q W rel tx ty z
  unfold pNe at z
  rw [RP_bnd] at z
  rcases pEqB_ok rel tx ty z with ⟨b, h1, rfl, h3⟩ | ⟨d, e, h1, h2, h3, h4, h5⟩
  · exact .inl ⟨h1, h3 _ F H (Ext.refl F) rel (.bl _)⟩
  · exact .inr ⟨d, e, h1, h2, h3, h4, h5 _ F H (Ext.refl F) rel (.bl _)⟩
/-- is None -/
def pIsN (n : Bool) : Dv → Dv → M RV
  | .non, .non => pure (.d (.bl (!n)))
  | .cl _, _ => M.bad
  | _, .non => pure (.d (.bl n))
  | _, _ => M.bad
theorem notNon {K : PySem.W.Frag} {F H : Hp} {d : Dv} {v : V} (h : Top K F H d v) (n : d ≠ .non) (n2 : ∀ u, d ≠ .cl u) : decide (v = .non) = false := by
  refine decide_eq_false fun e => ?_
  subst e
  rcases h with h | ⟨p, o, e, _⟩
  · cases h with
    | non => exact n rfl
    | cl => exact n2 _ rfl
  · cases e
theorem p_isN : P2 X (fun x y H Q => y = .non ∧ Q (.bl (decide (x = .non))) H) (pIsN false) := by
  intro g F ρ σ H x y dx dy Q W rel tx ty z
  unfold pIsN at z
  split at z
  · obtain rfl := tx.non
    exact ⟨ty.non, z _ F H (Ext.refl F) rel (.bl _)⟩
  · exact z.elim
  · rename_i n1 n2
    refine ⟨ty.non, ?_⟩
    rw [notNon tx n1 n2]
    exact z _ F H (Ext.refl F) rel (.bl _)
  · exact z.elim
theorem p_notN : P2 X (fun x y H Q => y = .non ∧ Q (.bl (!decide (x = .non))) H) (pIsN true) := by
  intro g F ρ σ H x y dx dy Q W rel tx ty z
  unfold pIsN at z
  split at z
  · obtain rfl := tx.non
    exact ⟨ty.non, z _ F H (Ext.refl F) rel (.bl _)⟩
  · exact z.elim
  · rename_i n1 n2
    refine ⟨ty.non, ?_⟩
    rw [notNon tx n1 n2]
    exact z _ F H (Ext.refl F) rel (.bl _)
  · exact z.elim
/-! ### in -/
def key? : Dv → Option Key
  | .int i => some (.inl i)
  | .str x => some (.inr x)
  | _ => none
theorem key_V {K : PySem.W.Frag} {F H : Hp} {d : Dv} {v : V} {k : Key} (h : Top K F H d v) (e : key? d = some k) : v = kV k := by
  cases d with
  | int i => cases e; exact h.int
  | str x => cases e; exact h.str
  | _ => cases e
def pInB : Dv → Dv → M Bool
  | x, .dct kvs => do
    let k ← M.opt (key? x)
    pure (valD kvs k).isSome
  | .str x, .str y => do
    M.grd (x.length = 1)
    pure (decide (x.cps.getD 0 0 ∈ y.cps.toList))
  | x, y => do
    let ys ← M.opt (items? y)
    M.grd (flatD x = true ∧ ys.all flatD = true)
    pure (ys.any fun d => eqD d x)
def pIn (n : Bool) (d e : Dv) : M RV := do
  let b ← pInB d e
  pure (.d (.bl (if n then !b else b)))
theorem op_in_dct (hu : X.A.units + 1 < cLine) : OpR X (compareOp .In) (fun y x H Q => ∃ a o, x = .ref a ∧ DGet H a y o ∧ Q (.bl o.isSome) H) := by
  intro pins s σ H y x u v Q I ry rx ⟨a, o, e, gt, q⟩
  subst e
  obtain rfl : v = .ref a := rx
  exact d_in hu I gt ry fun s' I' => ⟨V.bl _, H, I', rfl, q⟩
theorem op_notIn_dct (hu : X.A.units + 1 < cLine) : OpR X (compareOp .NotIn) (fun y x H Q => ∃ a o, x = .ref a ∧ DGet H a y o ∧ Q (.bl (!o.isSome)) H) := by
  intro pins s σ H y x u v Q I ry rx ⟨a, o, e, gt, q⟩
  subst e
  obtain rfl : v = .ref a := rx
  exact d_notIn hu I gt ry fun s' I' => ⟨V.bl _, H, I', rfl, q⟩
def rInS : R2 := fun x y H Q => ∃ (c : Nat) (z : Str), x = .str ⟨#[c]⟩ ∧ y = .str z ∧ Q (.bl (decide (c ∈ z.cps.toList))) H
def rNotInS : R2 := fun x y H Q => ∃ (c : Nat) (z : Str), x = .str ⟨#[c]⟩ ∧ y = .str z ∧ Q (.bl (!decide (c ∈ z.cps.toList))) H
def rInD : R2 := fun y x H Q => ∃ a o, x = .ref a ∧ DGet H a y o ∧ Q (.bl o.isSome) H
def rNotInD : R2 := fun y x H Q => ∃ a o, x = .ref a ∧ DGet H a y o ∧ Q (.bl (!o.isSome)) H
theorem op_inA (hu : X.A.units + 1 < cLine) : OpR X (compareOp .In) (fun x y H Q => rIn X.K false x y H Q ∨ rInD x y H Q ∨ rInS x y H Q) := op_in_seq.or ((op_in_dct hu).or op_in_sign)
theorem op_notInA (hu : X.A.units + 1 < cLine) : OpR X (compareOp .NotIn) (fun x y H Q => rIn X.K true x y H Q ∨ rNotInD x y H Q ∨ rNotInS x y H Q) := op_notIn_seq.or ((op_notIn_dct hu).or op_notIn_sign)
theorem one_sign {x : Str} (h : x.length = 1) : x = ⟨#[x.cps.getD 0 0]⟩ := by
  obtain ⟨⟨l⟩⟩ := x
  cases l with
  | nil => cases h
  | cons a t =>
    cases t with
    | nil => rfl
    | cons b t => simp [PySem.Str.length] at h
theorem pInB_ok {K : PySem.W.Frag} {g : Gx} {F : Hp} {ρ : VE} {σ : L2.St} {H : Hp} {x y : V} {dx dy : Dv} {ok : Bool → VE → Prop} {ex : Er → VE → Prop} (rel : Rel K g F ρ σ H) (tx : Top K F H dx x) (ty : Top K F H dy y) (z : RP (pInB dx dy ρ) ok ex) :
    (∃ p xs, y = .ref p ∧ (SqL K H p xs ∨ SqT K H p xs) ∧ flatV x = true ∧ xs.all flatV = true ∧ ok (L2.inV x xs) ρ) ∨ (∃ a o, y = .ref a ∧ DGet H a x o ∧ ok o.isSome ρ) ∨ ∃ (c : Nat) (z : Str), x = .str ⟨#[c]⟩ ∧ y = .str z ∧ ok (decide (c ∈ z.cps.toList)) ρ := by
  unfold pInB at z
  split at z
  · obtain ⟨a, qs, rfl, h1, h2⟩ := ty.dct rel.ext
    rw [RP_bnd] at z
    obtain ⟨k, hk, z⟩ := RP_opt z
    obtain rfl := key_V tx hk
    refine .inr (.inl ⟨a, valV qs k, rfl, DGet.k h1, ?_⟩)
    rcases h2.val k with ⟨e1, e2⟩ | ⟨d, v, e1, e2, _⟩
    · rw [e1] at z; rw [e2]; exact z
    · rw [e1] at z; rw [e2]; exact z
  · rw [RP_bnd] at z
    obtain ⟨h1, z⟩ := RP_grd z
    obtain rfl := tx.str
    obtain rfl := ty.str
    exact .inr (.inr ⟨_, _, congrArg V.str (one_sign h1), rfl, z⟩)
  · rw [RP_bnd] at z
    obtain ⟨ys, hy, z⟩ := RP_opt z
    rw [RP_bnd] at z
    obtain ⟨⟨h1, h2⟩, z⟩ := RP_grd z
    obtain ⟨a, vs, rfl, k1, k2⟩ := ty.seq rel.ext hy
    have rx := tx.flat h1
    exact .inl ⟨a, vs, rfl, k1, rx.flat h1, k2.flat h2, by rw [Reps.inV rx h1 k2 h2]; exact z⟩
theorem p_in : P2 X (fun x y H Q => rIn X.K false x y H Q ∨ rInD x y H Q ∨ rInS x y H Q) (pIn false) := by
  intro g F ρ σ H x y dx dy Q W rel tx ty z
  unfold pIn at z
  rw [RP_bnd] at z
  rcases pInB_ok rel tx ty z with ⟨p, xs, h1, h2, h3, h4, h5⟩ | ⟨a, o, h1, h2, h3⟩ | ⟨c, s, h1, h2, h3⟩
  · exact .inl ⟨p, xs, h1, h2, h3, h4, h5 _ F H (Ext.refl F) rel (.bl _)⟩
  · exact .inr (.inl ⟨a, o, h1, h2, h3 _ F H (Ext.refl F) rel (.bl _)⟩)
  · exact .inr (.inr ⟨c, s, h1, h2, h3 _ F H (Ext.refl F) rel (.bl _)⟩)
theorem p_notIn : P2 X (fun x y H Q => rIn X.K true x y H Q ∨ rNotInD x y H Q ∨ rNotInS x y H Q) (pIn true) := by
  intro g F ρ σ H x y dx dy Q W rel tx ty z
  unfold pIn at z
  rw [RP_bnd] at z
  rcases pInB_ok rel tx ty z with ⟨p, xs, h1, h2, h3, h4, h5⟩ | ⟨a, o, h1, h2, h3⟩ | ⟨c, s, h1, h2, h3⟩
  · exact .inl ⟨p, xs, h1, h2, h3, h4, h5 _ F H (Ext.refl F) rel (.bl _)⟩
  · exact .inr (.inl ⟨a, o, h1, h2, h3 _ F H (Ext.refl F) rel (.bl _)⟩)
  · exact .inr (.inr ⟨c, s, h1, h2, h3 _ F H (Ext.refl F) rel (.bl _)⟩)
/-! ### a[i] -/
def pIx : Dv → Dv → M RV
  | .str x, .int i => do
    let c ← M.opt (atI x.cps.toList i)
    M.grd (x.length ≤ sizeLine)
    pure (.d (.str ⟨#[c]⟩))
  | d, .int i => do
    let xs ← M.opt (items? d)
    let v ← M.opt (atI xs i)
    pure (.d v)
  | _, _ => M.bad
theorem Reps.atI {K : PySem.W.Frag} {F : Hp} {ds : List Dv} {vs : List V} {i : Int} {d : Dv} (h : Reps K F ds vs) (e : L2.atI ds i = some d) : ∃ v, L2.atI vs i = some v ∧ Rep K F d v := by
  unfold L2.atI at e ⊢
  rw [h.length] at e
  cases q : ixN vs.length i with
  | none => rw [q] at e; cases e
  | some j =>
    rw [q] at e
    obtain ⟨v, h1, h2⟩ := h.get (i := j) e
    exact ⟨v, h1, h2⟩
theorem p_ix : P2 X (rIx X.K) pIx := by
  intro g F ρ σ H x y dx dy Q W rel tx ty z
  unfold pIx at z
  split at z
  · rw [RP_bnd] at z
    obtain ⟨c, hc, z⟩ := RP_opt z
    rw [RP_bnd] at z
    obtain ⟨h1, z⟩ := RP_grd z
    exact .inr (.inr ⟨_, _, c, tx.str, ty.int, h1, hc, z _ F H (Ext.refl F) rel (.str _)⟩)
  · rw [RP_bnd] at z
    obtain ⟨xs, hx, z⟩ := RP_opt z
    rw [RP_bnd] at z
    obtain ⟨v, hv, z⟩ := RP_opt z
    obtain ⟨a, vs, rfl, k1, k2⟩ := tx.seq rel.ext hx
    obtain ⟨u, h1, h2⟩ := k2.atI hv
    rcases k1 with k1 | k1
    · exact .inl ⟨a, vs, _, u, rfl, ty.int, k1, h1, z _ F H (Ext.refl F) rel h2⟩
    · exact .inr (.inl ⟨a, vs, _, u, rfl, ty.int, k1, h1, z _ F H (Ext.refl F) rel h2⟩)
  · exact z.elim
/-- d[k] of a dict -/
def pDx : Dv → Dv → M RV
  | .dct kvs, x => do
    let k ← M.opt (key? x)
    let v ← M.opt (valD kvs k)
    pure (.d v)
  | _, _ => M.bad
theorem se_dx {W : Wh} {a b : Expr} {pos : Pos} {ma mb : M AV} (hu : X.A.units + 1 < cLine) (ha : SF X W a ma) (hb : SF X W b mb) (hs : L2.NoSl b) : SE X W (.Subscript a b pos) (b2 pDx ma mb) := by
  have hp : P2 X (fun x y H Q => ∃ a v, x = .ref a ∧ DGet H a y (some v) ∧ Q v H) pDx := by
    intro g F ρ σ H x y dx dy Q W rel tx ty z
    unfold pDx at z
    split at z
    · rw [RP_bnd] at z
      obtain ⟨k, hk, z⟩ := RP_opt z
      rw [RP_bnd] at z
      obtain ⟨v, hv, z⟩ := RP_opt z
      obtain ⟨a, qs, rfl, h1, h2⟩ := tx.dct rel.ext
      obtain rfl := key_V ty hk
      rcases h2.val k with ⟨e1, e2⟩ | ⟨d, u, e1, e2, e3⟩
      · rw [hv] at e1; cases e1
      · rw [hv] at e1; cases e1
        exact ⟨a, u, rfl, by rw [← e2]; exact DGet.k h1, z _ F H (Ext.refl F) rel e3⟩
    · exact z.elim
  obtain ⟨ta, tb, pa, pb, q⟩ := s2 hp ha hb
  exact ⟨_, pe_dget hu pa pb hs, q⟩
/-! ### slices -/
def rSlA (K : PySem.W.Frag) : V → Option Int → Option Int → Hp → VK → Prop := fun x lo hi H Q => rSlL K x lo hi H Q ∨ rSlT K x lo hi H Q ∨ rSlS x lo hi H Q
theorem sl_any : SlR X (rSlA X.K) := sl_list.or (sl_tup.or sl_str)
theorem se_slice {W : Wh} {a : Expr} {lo hi : Option Expr} {pos p2 : Pos} {ma : M AV} {ml mh : M (Option Int)} (ha : SF X W a ma) (hl : SO X W lo ml) (hh : SO X W hi mh) : SE X W (.Subscript a (.Slice lo hi none p2) pos) (eSl ma ml mh) := by
  obtain ⟨ta, pa, qa⟩ := ha.ex
  obtain ⟨tl, pl, ql⟩ := hl.ex
  obtain ⟨th, ph, qh⟩ := hh.ex
  refine ⟨_, pe_slice sl_any pa pl ph, fun g hw F ρ σ H Q rel z => ?_⟩
  unfold eSl at z
  rw [RP_bnd] at z
  refine qa g hw F ρ σ H _ rel (z.imp (fun x ρ1 z1 => ?_) fun _ _ k => k)
  intro v F1 H1 e1 rel1 ok1
  rw [RP_bnd] at z1
  refine ql g hw F1 ρ1 σ H1 _ rel1 (z1.imp (fun o ρ2 z2 => ?_) fun _ _ k => k.ext e1)
  intro F2 H2 e2 rel2
  rw [RP_bnd] at z2
  refine qh g hw F2 ρ2 σ H2 _ rel2 (z2.imp (fun o' ρ3 z3 => ?_) fun _ _ k => k.ext (e1.trans e2))
  intro F3 H3 e3 rel3
  rw [RP_bnd] at z3
  obtain ⟨d, t, z4⟩ := con_ok rel3 ((ok1.mono e2).mono e3) z3
  have E := (e1.trans e2).trans e3
  unfold pSl at z4
  split at z4
  · obtain ⟨a, vs, rfl, h1, h2⟩ := t.lst rel3.ext
    exact .inl ⟨a, vs, rfl, SqL.of h1, fun p hp => newLst rel3 (h2.cut o o') (z4.ext E) hp⟩
  · obtain ⟨a, vs, rfl, h1, h2⟩ := t.rls rel3.ext
    exact .inl ⟨a, vs, rfl, h1, fun p hp => newLst rel3 (h2.cut o o') (z4.ext E) hp⟩
  · rw [RP_bnd] at z4
    obtain ⟨hw, z5⟩ := RP_grd z4
    obtain ⟨a, vs, rfl, h1, h2⟩ := t.tup rel3.ext
    exact .inr (.inl ⟨a, vs, rfl, h1, by rw [← h2.length]; exact hw, fun p hp => newTup rel3 (h2.cut o o') (z5.ext E) hp⟩)
  · rw [RP_bnd] at z4
    obtain ⟨hw, z5⟩ := RP_grd z4
    exact .inr (.inr ⟨_, t.str, hw, z5 _ F3 H3 E rel3 (.str _)⟩)
  · exact z4.elim
end
end P0
end
section
set_option Elab.async false
set_option linter.all false
set_option maxRecDepth 100000
set_option maxHeartbeats 4000000
/-! P0, calls: built-ins, methods, own defs. -/
namespace P0
open PySem PySem.Spec L2
open PyProof.Rows hiding St

section
variable {X : Cx} {W : Wh} {a b c e : Expr} {es : List Expr} {pos p : Pos} {x : Str}
/-! ### built-ins by name -/
def eB (q : List Dv → M RV) (ma : M (List AV)) : M RV := do
  let as ← ma
  let ds ← conL as
  q ds
def PL (X : Cx) (r : List V → Hp → VK → Prop) (q : List Dv → M RV) : Prop := ∀ (g : Gx) (F : Hp) (ρ : VE) (σ : L2.St) (H : Hp) (vs : List V) (ds : List Dv) (Q : VK) (W : Wh), Rel X.K g F ρ σ H → Paired (Top X.K F H) ds vs → RP (q ds ρ) (okE X g F σ Q) (exE X g F W) → r vs H Q
theorem sL {r : List V → Hp → VK → Prop} {q : List Dv → M RV} {ma : M (List AV)} (hp : PL X r q) (ha : SA X W es ma) : ∃ t, PA X es t ∧ ∀ g, W.p g → ∀ F ρ σ H Q, Rel X.K g F ρ σ H → RP (eB q ma ρ) (okE X g F σ Q) (exE X g F W) → tCB r t σ H Q := by
  obtain ⟨t, pt, qt⟩ := ha.ex
  refine ⟨t, pt, fun g hw F ρ σ H Q rel z => ?_⟩
  unfold eB at z
  rw [RP_bnd] at z
  refine qt g hw F ρ σ H _ rel (z.imp (fun as ρ1 z1 => ?_) fun _ _ k => k)
  intro vs F1 H1 e1 rel1 ok1
  rw [RP_bnd] at z1
  obtain ⟨ds, h1, z2⟩ := conL_ok rel1 ok1 z1
  exact hp g F1 ρ1 σ H1 vs ds Q W rel1 h1 (z2.imp (fun _ _ k => k.ext e1) fun _ _ k => k.ext e1)
theorem se_callB {id : String} {r : List V → Hp → VK → Prop} {q : List Dv → M RV} {ma : M (List AV)} (hc : CallR X (.builtin id) r) (hp : PL X r q) (hg : Gl X x) (hm : X.mg x = none) (hv : bootBuiltins x = some (.builtin id)) (ha : SA X W (e :: es) ma)
    (hn : x ≠ "__name__" := by decide) (hdb : (x == ("__debug__" : Str)) = false := by decide) (he : starEach (e :: es) X.env = (false, eval e X.env) :: starEach es X.env := by rfl) (hpl : (backTo pos (starEach es X.env)).any (·.1) = false := by rfl) :
    SE X W (.Call (.Name x p) (e :: es) [] pos) (eB q ma) := by
  obtain ⟨t, pt, qt⟩ := sL hp ha
  exact ⟨_, pe_callB hc hg hm hv pt hn hdb he hpl, qt⟩
theorem se_callTy {id : String} {r : List V → Hp → VK → Prop} {q : List Dv → M RV} {ma : M (List AV)} (hc : CallR X (.type id) r) (hp : PL X r q) (hg : Gl X x) (hm : X.mg x = none) (hv : bootBuiltins x = some (.type id)) (ha : SA X W (e :: es) ma)
    (hn : x ≠ "__name__" := by decide) (hdb : (x == ("__debug__" : Str)) = false := by decide) (he : starEach (e :: es) X.env = (false, eval e X.env) :: starEach es X.env := by rfl) (hpl : (backTo pos (starEach es X.env)).any (·.1) = false := by rfl) :
    SE X W (.Call (.Name x p) (e :: es) [] pos) (eB q ma) := by
  obtain ⟨t, pt, qt⟩ := sL hp ha
  exact ⟨_, pe_callTy hc hg hm hv pt hn hdb he hpl, qt⟩

theorem pd1 {K : PySem.W.Frag} {F H : Hp} {d : Dv} {vs : List V} (h : Paired (Top K F H) [d] vs) : ∃ v, vs = [v] ∧ Top K F H d v := by
  cases h with
  | cons a t => cases t; exact ⟨_, rfl, a⟩
theorem pd2 {K : PySem.W.Frag} {F H : Hp} {d d' : Dv} {vs : List V} (h : Paired (Top K F H) [d, d'] vs) : ∃ v u, vs = [v, u] ∧ Top K F H d v ∧ Top K F H d' u := by
  cases h with
  | cons a t =>
    obtain ⟨u, rfl, k⟩ := pd1 t
    exact ⟨_, u, rfl, a, k⟩
/-- len -/
def qLen : List Dv → M RV
  | [.str z] => do
    M.grd (z.length ≤ sizeLine)
    pure (.d (.int z.length))
  | [.dct kvs] => pure (.d (.int kvs.length))
  | [d] => do
    let xs ← M.opt (items? d)
    pure (.d (.int xs.length))
  | _ => M.bad
def rLen (K : PySem.W.Frag) : List V → Hp → VK → Prop := fun xs H Q => (∃ x n, xs = [x] ∧ LenV K x H n ∧ Q (.int n) H) ∨ ∃ a kvs, xs = [.ref a] ∧ H a = some (.dK kvs) ∧ Q (.int kvs.length) H
theorem call_lenA : CallR X (.builtin "len") (rLen X.K) := by
  refine CallR.or call_len ?_
  intro pins s σ H xs us Q I r ⟨a, kvs, e, h, q⟩
  subst e
  obtain ⟨u, rfl, ru⟩ := vals1 r
  obtain rfl : u = .ref a := ru
  exact d_len I (.inl h) fun t s' I' => ⟨.int kvs.length, H, I', ⟨t, rfl⟩, q⟩
theorem q_len : PL X (rLen X.K) qLen := by
  intro g F ρ σ H vs ds Q W rel h z
  unfold qLen at z
  split at z
  · rw [RP_bnd] at z
    obtain ⟨hl, z⟩ := RP_grd z
    obtain ⟨v, rfl, t⟩ := pd1 h
    obtain rfl := t.str
    exact .inl ⟨_, _, rfl, ⟨hl, rfl⟩, z _ F H (Ext.refl F) rel (.int _)⟩
  · obtain ⟨v, rfl, t⟩ := pd1 h
    obtain ⟨a, qs, rfl, h1, h2⟩ := t.dct rel.ext
    refine .inr ⟨a, qs, rfl, h1, ?_⟩
    rw [← Paired.length h2]
    exact z _ F H (Ext.refl F) rel (.int _)
  · rw [RP_bnd] at z
    obtain ⟨xs, hx, z⟩ := RP_opt z
    obtain ⟨v, rfl, t⟩ := pd1 h
    obtain ⟨a, us, rfl, h1, h2⟩ := t.seq rel.ext hx
    refine .inl ⟨_, us.length, rfl, ?_, by rw [← h2.length]; exact z _ F H (Ext.refl F) rel (.int _)⟩
    rcases h1 with h1 | h1
    · exact .inl ⟨us, h1, rfl⟩
    · exact .inr ⟨us, h1, rfl⟩
  · exact z.elim
/-- abs -/
def qAbs : List Dv → M RV
  | [.int i] => pure (.d (.int (if i < 0 then -i else i)))
  | _ => M.bad
theorem q_abs : PL X (fun xs H Q => ∃ i, xs = [.int i] ∧ Q (.int (if i < 0 then -i else i)) H) qAbs := by
  intro g F ρ σ H vs ds Q W rel h z
  unfold qAbs at z
  split at z
  · obtain ⟨v, rfl, t⟩ := pd1 h
    obtain rfl := t.int
    exact ⟨_, rfl, z _ F H (Ext.refl F) rel (.int _)⟩
  · exact z.elim
/-- int -/
def qInt : List Dv → M RV
  | [.int i] => pure (.d (.int i))
  | [.bl k] => pure (.d (.int (if k then 1 else 0)))
  | _ => M.bad
theorem q_int : PL X (fun xs H Q => (∃ i, xs = [.int i] ∧ Q (.int i) H) ∨ ∃ k, xs = [.bl k] ∧ Q (.int (if k then 1 else 0)) H) qInt := by
  intro g F ρ σ H vs ds Q W rel h z
  unfold qInt at z
  split at z
  · obtain ⟨v, rfl, t⟩ := pd1 h
    obtain rfl := t.int
    exact .inl ⟨_, rfl, z _ F H (Ext.refl F) rel (.int _)⟩
  · obtain ⟨v, rfl, t⟩ := pd1 h
    obtain rfl := t.bl
    exact .inr ⟨_, rfl, z _ F H (Ext.refl F) rel (.int _)⟩
  · exact z.elim
/-- the ints of a list -/
def ints? : List Dv → Option (List Int)
  | [] => some []
  | .int i :: ds => (ints? ds).map (i :: ·)
  | _ :: _ => none
theorem ints?_map : ∀ ns : List Int, ints? (ns.map Dv.int) = some ns
  | [] => rfl
  | n :: ns => by rw [List.map_cons, ints?, ints?_map ns]; rfl
theorem ints?_eq : ∀ {ds : List Dv} {ns : List Int}, ints? ds = some ns → ds = ns.map Dv.int
  | [], ns, h => by cases h; rfl
  | .int i :: ds, ns, h => by
    rw [ints?] at h
    cases q : ints? ds with
    | none => rw [q] at h; cases h
    | some ms =>
      rw [q] at h; cases h
      rw [ints?_eq q, List.map_cons]
  | .non :: _, _, h => by cases h
  | .bl _ :: _, _, h => by cases h
  | .str _ :: _, _, h => by cases h
  | .cl _ :: _, _, h => by cases h
  | .lst _ :: _, _, h => by cases h
  | .tup _ :: _, _, h => by cases h
  | .rls _ :: _, _, h => by cases h
  | .dct _ :: _, _, h => by cases h
  | .dcT _ :: _, _, h => by cases h
  | .ins _ _ :: _, _, h => by cases h
def lmin : List Int → Int
  | [] => 0
  | x :: xs => xs.foldl (fun a y => if decide (y < a) = true then y else a) x
def lmax : List Int → Int
  | [] => 0
  | x :: xs => xs.foldl (fun a y => if decide (a < y) = true then y else a) x
def qMin : List Dv → M RV
  | [.int i, .int j] => pure (.d (.int (if j < i then j else i)))
  | [d] => do
    let xs ← M.opt (items? d)
    let ns ← M.opt (ints? xs)
    M.grd (0 < ns.length)
    pure (.d (.int (lmin ns)))
  | _ => M.bad
def qMax : List Dv → M RV
  | [.int i, .int j] => pure (.d (.int (if j > i then j else i)))
  | [d] => do
    let xs ← M.opt (items? d)
    let ns ← M.opt (ints? xs)
    M.grd (0 < ns.length)
    pure (.d (.int (lmax ns)))
  | _ => M.bad
/-- min, max of a list or tuple of ints -/
def rBest (K : PySem.W.Frag) (f : List Int → Int) : List V → Hp → VK → Prop := fun xs H Q => ∃ a ns, xs = [.ref a] ∧ (SqL K H a (ns.map V.int) ∨ SqT K H a (ns.map V.int)) ∧ 0 < ns.length ∧ Q (.int (f ns)) H
theorem holdInts {h : Heap} : ∀ {ns : List Int} {us : List Value}, Vals (ns.map V.int) us → PySem.W.HoldAll h us ns
  | [], _, r => by rw [List.map_nil] at r; cases r; exact PySem.W.HoldAll.nil
  | n :: ns, _, r => by
    rw [List.map_cons] at r
    cases r with
    | cons a t =>
      obtain ⟨k, rfl⟩ := a
      exact PySem.W.HoldAll.cons ⟨_, Reads.int n k⟩ (holdInts t)
theorem holdInt {h : Heap} {n : Int} {v : Value} (k : PySem.W.Holds h v n) : ∃ t, v = .int n t := by
  obtain ⟨as, r⟩ := k
  have r' : Reads h v (.int n) as := r
  cases r' with
  | int i t => exact ⟨t, rfl⟩
theorem call_minA (hu : X.A.units + 64 < cLine) (hc : X.calm = true) : CallR X (.builtin "min") (fun xs H Q => (∃ i j, xs = [.int i, .int j] ∧ Q (.int (if j < i then j else i)) H) ∨ rBest X.K lmin xs H Q) := by
  refine CallR.or (call_min2 hc) ?_
  intro pins s σ H xs us Q I r ⟨a, ns, e, h, hl, q⟩
  subst e
  obtain ⟨u, rfl, ru⟩ := vals1 r
  obtain rfl : u = .ref a := ru
  have hh := I.ok.hd hc
  cases ns with
  | nil => cases hl
  | cons n ns =>
    have fin : ∀ {v : Value} {h' : Heap} {tk : Nat}, PySem.W.Holds h' v (PySem.W.minOf n ns) → (∀ b o, s.heap.get? b = some o → h'.get? b = some o) → EP X pins σ Q v { s with heap := h', toks := tk } := fun {v h' tk} k keep => by
      obtain ⟨t, rfl⟩ := holdInt k
      exact ⟨.int _, H, I.kept keep, ⟨t, rfl⟩, q⟩
    rcases h with h | h
    · obtain ⟨its, rv, hL, _⟩ := I.list h
      exact PySem.W.min_list_datum hh hL.isList (holdInts rv) (by show X.A.units + 1 + 0 < cLine; omega) fun i v h' tk _ k keep => fin k keep
    · obtain ⟨its, rv, hT, _⟩ := I.tuple h
      exact PySem.W.min_tuple_datum hh hT (holdInts rv) (by show X.A.units + 1 + 0 < cLine; omega) fun i v h' tk _ k keep => fin k keep
theorem call_maxA (hu : X.A.units + 64 < cLine) (hc : X.calm = true) : CallR X (.builtin "max") (fun xs H Q => (∃ i j, xs = [.int i, .int j] ∧ Q (.int (if j > i then j else i)) H) ∨ rBest X.K lmax xs H Q) := by
  refine CallR.or (call_max2 hc) ?_
  intro pins s σ H xs us Q I r ⟨a, ns, e, h, hl, q⟩
  subst e
  obtain ⟨u, rfl, ru⟩ := vals1 r
  obtain rfl : u = .ref a := ru
  have hh := I.ok.hd hc
  cases ns with
  | nil => cases hl
  | cons n ns =>
    have fin : ∀ {v : Value} {h' : Heap} {tk : Nat}, PySem.W.Holds h' v (PySem.W.maxOf n ns) → (∀ b o, s.heap.get? b = some o → h'.get? b = some o) → EP X pins σ Q v { s with heap := h', toks := tk } := fun {v h' tk} k keep => by
      obtain ⟨t, rfl⟩ := holdInt k
      exact ⟨.int _, H, I.kept keep, ⟨t, rfl⟩, q⟩
    rcases h with h | h
    · obtain ⟨its, rv, hL, _⟩ := I.list h
      exact PySem.W.max_list_datum hh hL.isList (holdInts rv) (by show X.A.units + 1 + 0 < cLine; omega) fun i v h' tk _ k keep => fin k keep
    · obtain ⟨its, rv, hT, _⟩ := I.tuple h
      exact PySem.W.max_tuple_datum hh hT (holdInts rv) (by show X.A.units + 1 + 0 < cLine; omega) fun i v h' tk _ k keep => fin k keep
theorem best_of {g : Gx} {F : Hp} {ρ : VE} {σ : L2.St} {H : Hp} {d : Dv} {vs : List V} {xs : List Dv} {ns : List Int} {f : List Int → Int} {Q : VK} (rel : Rel X.K g F ρ σ H) (h : Paired (Top X.K F H) [d] vs) (hx : items? d = some xs) (hn : ints? xs = some ns) (h0 : 0 < ns.length)
    (z : okE X g F σ Q (.d (.int (f ns))) ρ) : rBest X.K f vs H Q := by
  obtain ⟨v, rfl, t⟩ := pd1 h
  obtain ⟨a, us, rfl, h1, h2⟩ := t.seq rel.ext hx
  obtain rfl := ints?_eq hn
  obtain rfl := h2.ints_inv
  exact ⟨a, ns, rfl, h1, h0, z _ F H (Ext.refl F) rel (.int _)⟩
theorem q_min : PL X (fun xs H Q => (∃ i j, xs = [.int i, .int j] ∧ Q (.int (if j < i then j else i)) H) ∨ rBest X.K lmin xs H Q) qMin := by
  intro g F ρ σ H vs ds Q W rel h z
  unfold qMin at z
  split at z
  · obtain ⟨v, u, rfl, t, k⟩ := pd2 h
    obtain rfl := t.int
    obtain rfl := k.int
    exact .inl ⟨_, _, rfl, z _ F H (Ext.refl F) rel (.int _)⟩
  · rw [RP_bnd] at z
    obtain ⟨xs, hx, z⟩ := RP_opt z
    rw [RP_bnd] at z
    obtain ⟨ns, hn, z⟩ := RP_opt z
    rw [RP_bnd] at z
    obtain ⟨h0, z⟩ := RP_grd z
    exact .inr (best_of rel h hx hn h0 z)
  · exact z.elim
theorem q_max : PL X (fun xs H Q => (∃ i j, xs = [.int i, .int j] ∧ Q (.int (if j > i then j else i)) H) ∨ rBest X.K lmax xs H Q) qMax := by
  intro g F ρ σ H vs ds Q W rel h z
  unfold qMax at z
  split at z
  · obtain ⟨v, u, rfl, t, k⟩ := pd2 h
    obtain rfl := t.int
    obtain rfl := k.int
    exact .inl ⟨_, _, rfl, z _ F H (Ext.refl F) rel (.int _)⟩
  · rw [RP_bnd] at z
    obtain ⟨xs, hx, z⟩ := RP_opt z
    rw [RP_bnd] at z
    obtain ⟨ns, hn, z⟩ := RP_opt z
    rw [RP_bnd] at z
    obtain ⟨h0, z⟩ := RP_grd z
    exact .inr (best_of rel h hx hn h0 z)
  · exact z.elim
/-- sum of ints -/
def qSum : List Dv → M RV
  | [.lst xs] => do
    let ns ← M.opt (ints? xs)
    pure (.d (.int ns.sum))
  | [.rls xs] => do
    let ns ← M.opt (ints? xs)
    pure (.d (.int ns.sum))
  | _ => M.bad
theorem q_sum : PL X (rSum X.K) qSum := by
  intro g F ρ σ H vs ds Q W rel h z
  unfold qSum at z
  split at z
  · rw [RP_bnd] at z
    obtain ⟨ns, hn, z2⟩ := RP_opt z
    obtain ⟨v, rfl, t⟩ := pd1 h
    obtain ⟨a, us, rfl, h1, h2⟩ := t.lst rel.ext
    obtain rfl := ints?_eq hn
    obtain rfl := h2.ints_inv
    exact ⟨a, ns, rfl, SqL.of h1, z2 _ F H (Ext.refl F) rel (.int _)⟩
  · rw [RP_bnd] at z
    obtain ⟨ns, hn, z2⟩ := RP_opt z
    obtain ⟨v, rfl, t⟩ := pd1 h
    obtain ⟨a, us, rfl, h1, h2⟩ := t.rls rel.ext
    obtain rfl := ints?_eq hn
    obtain rfl := h2.ints_inv
    exact ⟨a, ns, rfl, h1, z2 _ F H (Ext.refl F) rel (.int _)⟩
  · exact z.elim
/-- list, tuple -/
def qList : List Dv → M RV
  | [d] => do
    let xs ← M.opt (items? d)
    pure (.fr (.lst xs))
  | _ => M.bad
theorem q_list : PL X (fun xs H Q => ∃ p ys, xs = [.ref p] ∧ (SqL X.K H p ys ∨ SqT X.K H p ys) ∧ ∀ l, H l = none → Q (.ref l) (upd H l (.lst ys))) qList := by
  intro g F ρ σ H vs ds Q W rel h z
  unfold qList at z
  split at z
  · rw [RP_bnd] at z
    obtain ⟨xs, hx, z⟩ := RP_opt z
    obtain ⟨v, rfl, t⟩ := pd1 h
    obtain ⟨a, us, rfl, h1, h2⟩ := t.seq rel.ext hx
    exact ⟨a, us, rfl, h1, fun l hl => newLst rel h2 z hl⟩
  · exact z.elim
def qTuple : List Dv → M RV
  | [.tup xs] => pure (.d (.tup xs))
  | [.lst xs] => pure (.d (.tup xs))
  | [.rls xs] => pure (.d (.tup xs))
  | _ => M.bad
theorem q_tuple : PL X (fun xs H Q => ∃ p ys, xs = [.ref p] ∧ ((SqL X.K H p ys ∧ ∀ l, H l = none → Q (.ref l) (upd H l (.tup ys))) ∨ (SqT X.K H p ys ∧ Q (.ref p) H))) qTuple := by
  intro g F ρ σ H vs ds Q W rel h z
  unfold qTuple at z
  split at z
  · obtain ⟨v, rfl, t⟩ := pd1 h
    rcases t with t | ⟨p, o, rfl, ho, t⟩
    · cases t with
      | tup h1 h2 => exact ⟨_, _, rfl, .inr ⟨SqT.ext rel.ext h1, z _ F H (Ext.refl F) rel (.tup h1 h2)⟩⟩
    · cases t
  · obtain ⟨v, rfl, t⟩ := pd1 h
    obtain ⟨a, us, rfl, h1, h2⟩ := t.lst rel.ext
    exact ⟨a, us, rfl, .inl ⟨SqL.of h1, fun l hl => newTup rel h2 z hl⟩⟩
  · obtain ⟨v, rfl, t⟩ := pd1 h
    obtain ⟨a, us, rfl, h1, h2⟩ := t.rls rel.ext
    exact ⟨a, us, rfl, .inl ⟨h1, fun l hl => newTup rel h2 z hl⟩⟩
  · exact z.elim
/-- repr of plain data -/
def rRepr (K : PySem.W.Frag) : List V → Hp → VK → Prop := fun xs H Q => ∃ x d, xs = [x] ∧ Dp K H x d ∧ d.showable = true ∧ d.hasDict = false ∧ d.depth ≤ 60 ∧ d.shown.length ≤ sizeLine ∧ Q (.str d.shown) H
theorem call_reprA (hgd : X.A.guards = some []) (hu : X.A.units + 64 < cLine) : CallR X (.builtin "repr") (rRepr X.K) := by
  intro pins s σ H xs us Q I r ⟨x, d, e, hd, h1, h2, h3, h4, q⟩
  subst e
  obtain ⟨u, rfl, ru⟩ := vals1 r
  obtain ⟨as, rd⟩ := Dp.reads I d x u hd ru
  have fin : ∀ (h' : Heap) (t : Tok) (tk : Nat), (∀ b o, s.heap.get? b = some o → h'.get? b = some o) → EP X pins σ Q (.str d.shown t) { s with heap := h', toks := tk } := fun h' t tk keep => ⟨.str d.shown, H, I.kept keep, ⟨t, rfl⟩, q⟩
  cases hd with
  | lst a b =>
    obtain rfl : u = .ref _ := ru
    exact repr_of_reads' rd h1 (PyData.noDict_hsm h2) hgd (by omega) (fun _ _ k => k) (fun h' t tk keep => fin h' t tk keep) h4
  | tup a b =>
    obtain rfl : u = .ref _ := ru
    exact repr_of_reads' rd h1 (PyData.noDict_hsm h2) hgd (by omega) (fun _ _ k => k) (fun h' t tk keep => fin h' t tk keep) h4
  | non =>
    obtain rfl : u = .none := ru
    exact PySem.P.repr_of_none (fin s.heap _ _ fun _ _ k => k)
  | bl b =>
    obtain rfl : u = .bool b := ru
    exact PySem.P.repr_of_bool (fin s.heap _ _ fun _ _ k => k)
  | int i =>
    obtain ⟨t, rfl⟩ := ru
    exact PySem.P.repr_of_int (by simpa [PyData.showable] using h1) (fin s.heap _ _ fun _ _ k => k)
  | str z =>
    obtain ⟨t, rfl⟩ := ru
    exact PySem.P.repr_of_str (fin s.heap _ _ fun _ _ k => k) h4
end
end P0
end
section
set_option Elab.async false
set_option linter.all false
set_option maxRecDepth 100000
set_option maxHeartbeats 4000000
/-! P0, methods, own defs called, walks, targets, comprehensions. -/
namespace P0
open PySem PySem.Spec L2
open PyProof.Rows hiding St

section
variable {X : Cx} {W : Wh} {a b c e f o : Expr} {es : List Expr} {pos p apos cpos : Pos} {x : Str}
def okRepr (d : Dv) : Bool := isDt d && decide (dpD d ≤ 60) && (toPy d).showable && decide ((toPy d).shown.length ≤ sizeLine)
def qRepr : List Dv → M RV
  | [d] => do
    M.grd (okRepr d = true)
    pure (.d (.str (toPy d).shown))
  | _ => M.bad
theorem q_repr : PL X (rRepr X.K) qRepr := by
  intro g F ρ σ H vs ds Q W rel h z
  unfold qRepr at z
  split at z
  · rw [RP_bnd] at z
    obtain ⟨hg, z⟩ := RP_grd z
    unfold okRepr at hg
    rw [Bool.and_eq_true, Bool.and_eq_true, Bool.and_eq_true] at hg
    obtain ⟨⟨⟨h1, h2⟩, h3⟩, h4⟩ := hg
    obtain ⟨v, rfl, t⟩ := pd1 h
    exact ⟨v, _, rfl, t.dp rel.ext h1, h3, PyData.hasDict_of_canLay _ (canLay_toPy _ h1), by rw [depth_toPy]; exact of_decide_eq_true h2, of_decide_eq_true h4, z _ F H (Ext.refl F) rel (.str _)⟩
  · exact z.elim

/-! ### methods of the mutable thing of a slot -/
def getMu (i : Nat) : M Dv := fun ρ => match ρ[i]? with
  | some (.mu _ d) => .ok d ρ
  | _ => .bad
def putMu (i : Nat) (d : Dv) : M Unit := fun ρ => match ρ[i]? with
  | some (.mu b _) => .ok () (ρ.set i (.mu b d))
  | _ => .bad
section
variable {K : PySem.W.Frag} {g : Gx} {F H : Hp} {ρ : VE} {σ : L2.St} {i : Nat}
theorem getMu_ok {ok : Dv → VE → Prop} {ex : Er → VE → Prop} (r : Rel K g F ρ σ H) (z : RP (getMu i ρ) ok ex) : ∃ b d p o, ρ[i]? = some (Sl.mu b d) ∧ σ[i]? = some (some (V.ref p)) ∧ H p = some o ∧ RepO K F d o ∧ ok d ρ := by
  unfold getMu at z
  cases e : ρ[i]? with
  | none => simp only [e] at z; exact z.elim
  | some s =>
    simp only [e] at z
    cases s with
    | no => exact z.elim
    | exn => exact z.elim
    | val d => exact z.elim
    | ot t => exact z.elim
    | mu b d =>
      obtain ⟨p, o, h1, h2, h3, h4, _⟩ := r.mu i b d e
      exact ⟨b, d, p, o, rfl, h1, h3, h4, z⟩
theorem putMu_ok {b : Bool} {d d' : Dv} {ok : Unit → VE → Prop} {ex : Er → VE → Prop} (e : ρ[i]? = some (Sl.mu b d)) (z : RP (putMu i d' ρ) ok ex) : ok () (ρ.set i (Sl.mu b d')) := by
  unfold putMu at z
  simp only [e] at z
  exact z
end
/-- what is expected of a slot's list -/
def lst? : Dv → Option (List Dv)
  | .lst xs => some xs
  | _ => none
theorem lst?_eq {d : Dv} {xs : List Dv} (h : lst? d = some xs) : d = .lst xs := by
  cases d <;> first | (cases h; rfl) | cases h
def dct? : Dv → Option (List (Key × Dv))
  | .dct xs => some xs
  | _ => none
theorem dct?_eq {d : Dv} {xs : List (Key × Dv)} (h : dct? d = some xs) : d = .dct xs := by
  cases d <;> first | (cases h; rfl) | cases h
/-- the list of a slot -/
def getL (i : Nat) : M (List Dv) := do
  let l ← getMu i
  M.opt (lst? l)
def getD' (i : Nat) : M (List (Key × Dv)) := do
  let l ← getMu i
  M.opt (dct? l)
section
variable {K : PySem.W.Frag} {g : Gx} {F H : Hp} {ρ : VE} {σ : L2.St} {i : Nat}
theorem getL_ok {ok : List Dv → VE → Prop} {ex : Er → VE → Prop} (r : Rel K g F ρ σ H) (z : RP (getL i ρ) ok ex) : ∃ b xs p vs, ρ[i]? = some (Sl.mu b (.lst xs)) ∧ σ[i]? = some (some (V.ref p)) ∧ H p = some (.lst vs) ∧ Reps K F xs vs ∧ ok xs ρ := by
  unfold getL at z
  rw [RP_bnd] at z
  obtain ⟨b, l, q, ob, m1, m2, m3, m4, z3⟩ := getMu_ok r z
  obtain ⟨xs, hx, z4⟩ := RP_opt z3
  obtain rfl := lst?_eq hx
  obtain ⟨vs, rfl, hvs⟩ := m4.lstI
  exact ⟨b, xs, q, vs, m1, m2, m3, hvs, z4⟩
theorem getD_ok {ok : List (Key × Dv) → VE → Prop} {ex : Er → VE → Prop} (r : Rel K g F ρ σ H) (z : RP (getD' i ρ) ok ex) : ∃ b xs p vs, ρ[i]? = some (Sl.mu b (.dct xs)) ∧ σ[i]? = some (some (V.ref p)) ∧ H p = some (.dK vs) ∧ KD K F xs vs ∧ ok xs ρ := by
  unfold getD' at z
  rw [RP_bnd] at z
  obtain ⟨b, l, q, ob, m1, m2, m3, m4, z3⟩ := getMu_ok r z
  obtain ⟨xs, hx, z4⟩ := RP_opt z3
  obtain rfl := dct?_eq hx
  obtain ⟨vs, rfl, hvs⟩ := m4.dctI
  exact ⟨b, xs, q, vs, m1, m2, m3, hvs, z4⟩
end
/-- xs.append(e) -/
def mApp (i : Nat) (m : M AV) : M RV := do
  let _ ← getL i
  let a ← m
  let d ← ali a
  let xs ← getL i
  M.grd (xs.length < sizeLine)
  putMu i (.lst (xs ++ [d]))
  pure (.d .non)
theorem se_append (i : Nat) {call : Expr} {m : M AV} (h : SF X W e m) (pb : ∀ t, PE X e t → PE X call (tBM X.K "list" rAppend (tVar i) (tCons t tNil))) : SE X W call (mApp i m) := by
  obtain ⟨t, pt, qt⟩ := h.ex
  refine ⟨_, pb t pt, fun g hw F ρ σ H Q rel z => ?_⟩
  unfold mApp at z
  rw [RP_bnd] at z
  obtain ⟨b0, xs0, p0, vs0, m1, m2, m3, m4, z⟩ := getL_ok rel z
  refine ⟨_, m2, .inl ⟨rfl, _, SqL.of m3⟩, ?_⟩
  rw [RP_bnd] at z
  refine qt g hw F ρ σ H _ rel (z.imp (fun av ρ1 z1 => ?_) fun _ _ k => k)
  intro v F1 H1 e1 rel1 ok1
  rw [RP_bnd] at z1
  obtain ⟨d, F2, ρ2, e2, r2, h2, z2⟩ := ali_ok rel1 ok1 z1
  rw [RP_bnd] at z2
  obtain ⟨b, xs, q, vs, n1, n2, n3, n4, z3⟩ := getL_ok r2 z2
  rw [m2] at n2; cases n2
  rw [RP_bnd] at z3
  obtain ⟨hl, z5⟩ := RP_grd z3
  rw [RP_bnd] at z5
  have z6 := putMu_ok n1 z5
  exact ⟨p0, vs, v, rfl, rfl, n3, by rw [← n4.length]; exact hl, z6 _ F2 _ (e1.trans e2) (r2.write n1 m2 (.lst (n4.append (.cons h2 .nil)))) .non⟩
/-- xs.pop() -/
def mPop (i : Nat) : M RV := do
  let xs ← getL i
  let d ← M.opt xs[xs.length - 1]?
  putMu i (.lst xs.dropLast)
  pure (.d d)
theorem se_pop (i : Nat) {call : Expr} (pb : PE X call (tBM0 X.K "list" rPop (tVar i))) : SE X W call (mPop i) := by
  refine ⟨_, pb, fun g hw F ρ σ H Q rel z => ?_⟩
  unfold mPop at z
  rw [RP_bnd] at z
  obtain ⟨b, xs, q, vs, n1, n2, n3, n4, z3⟩ := getL_ok rel z
  rw [RP_bnd] at z3
  obtain ⟨d, hd, z4⟩ := RP_opt z3
  rw [RP_bnd] at z4
  have z6 := putMu_ok n1 z4
  obtain ⟨u, h1, h2⟩ := n4.get hd
  rw [n4.length] at h1
  exact ⟨_, n2, .inl ⟨rfl, _, SqL.of n3⟩, q, vs, u, rfl, rfl, n3, h1, z6 _ F _ (Ext.refl F) (rel.write n1 n2 (.lst n4.dropLast)) h2⟩
def int? : Dv → Option Int
  | .int i => some i
  | _ => none
theorem int?_eq {d : Dv} {i : Int} (h : int? d = some i) : d = .int i := by
  cases d <;> first | (cases h; rfl) | cases h
/-- xs.pop(k) -/
def mPopAt (i : Nat) (m : M AV) : M RV := do
  let _ ← getL i
  let a ← m
  let k ← con a
  let j ← M.opt (int? k)
  let xs ← getL i
  M.grd (-(2 ^ 63) ≤ j ∧ j < 2 ^ 63)
  let n ← M.opt (seqIndex? j xs.length)
  let d ← M.opt xs[n]?
  putMu i (.lst (xs.eraseIdx n))
  pure (.d d)
theorem se_popAt (i : Nat) {call : Expr} {m : M AV} (h : SF X W e m) (pb : ∀ t, PE X e t → PE X call (tBM X.K "list" rPopAt (tVar i) (tCons t tNil))) : SE X W call (mPopAt i m) := by
  obtain ⟨t, pt, qt⟩ := h.ex
  refine ⟨_, pb t pt, fun g hw F ρ σ H Q rel z => ?_⟩
  unfold mPopAt at z
  rw [RP_bnd] at z
  obtain ⟨b0, xs0, p0, vs0, m1, m2, m3, m4, z⟩ := getL_ok rel z
  refine ⟨_, m2, .inl ⟨rfl, _, SqL.of m3⟩, ?_⟩
  rw [RP_bnd] at z
  refine qt g hw F ρ σ H _ rel (z.imp (fun av ρ1 z1 => ?_) fun _ _ k => k)
  intro v F1 H1 e1 rel1 ok1
  rw [RP_bnd] at z1
  obtain ⟨k, hk, z2⟩ := con_ok rel1 ok1 z1
  rw [RP_bnd] at z2
  obtain ⟨j, hj, z9⟩ := RP_opt z2
  obtain rfl := int?_eq hj
  obtain rfl := hk.int
  rw [RP_bnd] at z9
  obtain ⟨b, xs, q, vs, n1, n2, n3, n4, z3⟩ := getL_ok rel1 z9
  rw [m2] at n2; cases n2
  rw [RP_bnd] at z3
  obtain ⟨⟨g1, g2⟩, z4⟩ := RP_grd z3
  rw [RP_bnd] at z4
  obtain ⟨n, hn, z4⟩ := RP_opt z4
  rw [RP_bnd] at z4
  obtain ⟨d, hd, z4⟩ := RP_opt z4
  rw [RP_bnd] at z4
  have z6 := putMu_ok n1 z4
  obtain ⟨u, h1, h2⟩ := n4.get hd
  rw [n4.length] at hn
  exact ⟨p0, vs, j, n, u, rfl, rfl, n3, g1, g2, hn, h1, z6 _ F1 _ e1 (rel1.write n1 m2 (.lst (n4.eraseIdx n))) h2⟩
/-- d.get(k, x) -/
def mGet2 (ma mb mc : M AV) : M RV := do
  let x ← ma
  let d0 ← con x
  let _ ← M.opt (dct? d0)
  let y ← mb
  let w ← mc
  let d ← con x
  let kvs ← M.opt (dct? d)
  let ky ← con y
  let k ← M.opt (key? ky)
  let dv ← ali w
  pure (.d ((valD kvs k).getD dv))
theorem se_get2 {call : Expr} {ma mb mc : M AV} (ha : SF X W o ma) (hb : SF X W e mb) (hc : SF X W f mc) (pb : ∀ ta tb tc, PE X o ta → PE X e tb → PE X f tc → PE X call (tDGet2 ta tb tc)) : SE X W call (mGet2 ma mb mc) := by
  obtain ⟨ta, pa, qa⟩ := ha.ex
  obtain ⟨tb, pb', qb⟩ := hb.ex
  obtain ⟨tc, pc, qc⟩ := hc.ex
  refine ⟨_, pb ta tb tc pa pb' pc, fun g hw F ρ σ H Q rel z => ?_⟩
  unfold mGet2 at z
  rw [RP_bnd] at z
  refine qa g hw F ρ σ H _ rel (z.imp (fun x ρ1 z1 => ?_) fun _ _ k => k)
  intro v F1 H1 e1 rel1 ok1
  rw [RP_bnd] at z1
  obtain ⟨d0, t0, z1⟩ := con_ok rel1 ok1 z1
  rw [RP_bnd] at z1
  obtain ⟨kv0, hk0, y1⟩ := RP_opt z1
  obtain rfl := dct?_eq hk0
  obtain ⟨a, qs0, rfl, h1, h2⟩ := t0.dct rel1.ext
  refine ⟨a, rfl, .inl ⟨_, .inl h1⟩, ?_⟩
  rw [RP_bnd] at y1
  refine qb g hw F1 ρ1 σ H1 _ rel1 (y1.imp (fun y ρ2 z2 => ?_) fun _ _ k => k.ext e1)
  intro u F2 H2 e2 rel2 ok2
  rw [RP_bnd] at z2
  refine qc g hw F2 ρ2 σ H2 _ rel2 (z2.imp (fun w ρ3 z3 => ?_) fun _ _ k => k.ext (e1.trans e2))
  intro s F3 H3 e3 rel3 ok3
  rw [RP_bnd] at z3
  obtain ⟨d, td, z4⟩ := con_ok rel3 ((ok1.mono e2).mono e3) z3
  rw [RP_bnd] at z4
  obtain ⟨kvs, hk, y4⟩ := RP_opt z4
  obtain rfl := dct?_eq hk
  obtain ⟨a', qs, ea, h3, h4⟩ := td.dct rel3.ext
  cases ea
  rw [RP_bnd] at y4
  obtain ⟨ky, ty, y5⟩ := con_ok rel3 (ok2.mono e3) y4
  rw [RP_bnd] at y5
  obtain ⟨k, hky, y6⟩ := RP_opt y5
  obtain rfl := key_V ty hky
  rw [RP_bnd] at y6
  obtain ⟨dv, F4, ρ4, e4, r4, h5, z5⟩ := ali_ok rel3 ok3 y6
  refine ⟨valV qs k, DGet.k h3, ?_⟩
  have E := ((e1.trans e2).trans e3).trans e4
  rcases h4.val k with ⟨k1, k2⟩ | ⟨d', v', k1, k2, k3⟩
  · rw [k1] at z5; rw [k2]
    exact z5 _ F4 H3 E r4 h5
  · rw [k1] at z5; rw [k2]
    exact z5 _ F4 H3 E r4 (k3.mono e4)
/-- xs.index(y), flat things, there -/
def idxD : List Dv → Dv → Option Nat
  | [], _ => none
  | x :: xs, y => if eqD x y = true then some 0 else (idxD xs y).map (· + 1)
theorem idxD_ok {K : PySem.W.Frag} {F : Hp} {y : Dv} {u : V} (ry : Rep K F y u) (fy : flatD y = true) : ∀ {ds : List Dv} {vs : List V} {j : Nat}, Reps K F ds vs → ds.all flatD = true → idxD ds y = some j →
    ∃ z, vs[j]? = some z ∧ eqV z u = true ∧ ∀ (m : Nat) (z' : V), m < j → vs[m]? = some z' → eqV z' u = false
  | [], _, _, .nil, _, h => by cases h
  | d :: ds, v :: vs, j, .cons a b, f, h => by
    rw [List.all_cons, Bool.and_eq_true] at f
    rw [idxD] at h
    by_cases c : eqD d y = true
    · rw [if_pos c] at h
      cases h
      exact ⟨v, rfl, by rw [a.eqF ry f.1 fy]; exact c, fun m z' hm => absurd hm (Nat.not_lt_zero m)⟩
    · rw [if_neg c] at h
      cases q : idxD ds y with
      | none => rw [q] at h; cases h
      | some i =>
        rw [q] at h; cases h
        obtain ⟨z, h1, h2, h3⟩ := idxD_ok ry fy b f.2 q
        refine ⟨z, h1, h2, fun m z' hm hz => ?_⟩
        cases m with
        | zero =>
          cases hz
          rw [a.eqF ry f.1 fy]
          exact Bool.eq_false_iff.mpr c
        | succ m => exact h3 m z' (Nat.lt_of_succ_lt_succ hm) hz
def mIndex (ma mb : M AV) : M RV := do
  let x ← ma
  let d0 ← con x
  let _ ← M.opt (lst? d0)
  let y ← mb
  let d ← con x
  let xs ← M.opt (lst? d)
  let k ← con y
  M.grd (flatD k = true ∧ xs.all flatD = true)
  let j ← M.opt (idxD xs k)
  pure (.d (.int j))
theorem se_index {call : Expr} {ma mb : M AV} (ha : SF X W o ma) (hb : SF X W e mb) (pb : ∀ ta tb, PE X o ta → PE X e tb → PE X call (tBM X.K "list" (rIndex X.K) ta (tCons tb tNil))) : SE X W call (mIndex ma mb) := by
  obtain ⟨ta, pa, qa⟩ := ha.ex
  obtain ⟨tb, pb', qb⟩ := hb.ex
  refine ⟨_, pb ta tb pa pb', fun g hw F ρ σ H Q rel z => ?_⟩
  unfold mIndex at z
  rw [RP_bnd] at z
  refine qa g hw F ρ σ H _ rel (z.imp (fun x ρ1 z1 => ?_) fun _ _ k => k)
  intro v F1 H1 e1 rel1 ok1
  rw [RP_bnd] at z1
  obtain ⟨d0, t0, z1⟩ := con_ok rel1 ok1 z1
  rw [RP_bnd] at z1
  obtain ⟨xs0, hx0, y1⟩ := RP_opt z1
  obtain rfl := lst?_eq hx0
  obtain ⟨a, vs0, rfl, h1, h2⟩ := t0.lst rel1.ext
  refine ⟨.inl ⟨rfl, _, SqL.of h1⟩, ?_⟩
  rw [RP_bnd] at y1
  refine qb g hw F1 ρ1 σ H1 _ rel1 (y1.imp (fun y ρ2 z2 => ?_) fun _ _ k => k.ext e1)
  intro u F2 H2 e2 rel2 ok2
  rw [RP_bnd] at z2
  obtain ⟨d, td, z3⟩ := con_ok rel2 (ok1.mono e2) z2
  rw [RP_bnd] at z3
  obtain ⟨xs, hx, y3⟩ := RP_opt z3
  obtain rfl := lst?_eq hx
  obtain ⟨a', vs, ea, h3, h4⟩ := td.lst rel2.ext
  cases ea
  rw [RP_bnd] at y3
  obtain ⟨k, tk, y4⟩ := con_ok rel2 ok2 y3
  rw [RP_bnd] at y4
  obtain ⟨⟨f1, f2⟩, y5⟩ := RP_grd y4
  rw [RP_bnd] at y5
  obtain ⟨j, hj, z4⟩ := RP_opt y5
  have rk := tk.flat f1
  obtain ⟨zz, q1, q2, q3⟩ := idxD_ok rk f1 h4 f2 hj
  exact ⟨a, vs, u, j, zz, rfl, rfl, SqL.of h3, rk.flat f1, h4.flat f2, q1, q2, q3, z4 _ F2 H2 (e1.trans e2) rel2 (.int _)⟩

/-! ### own defs -/
def kCall (r : R RV) : M RV := fun ρ => match r with
  | .ok rv _ => .ok rv ρ
  | .exc er _ => .exc er ρ
  | .bad => .bad
def eCall (n : Nat) (φ : List Sl → R RV) (ma : M (List AV)) : M RV := do
  let as ← ma
  let ds ← aliL as
  M.grd (ds.length = n)
  kCall (φ (ds.map Sl.val))
theorem se_call {k n : Nat} {fa : Addr} {fd : FuncData} {ps : List Str} {φ : List Sl → R RV} {ma : M (List AV)} (G : FnG X.prog X.w X.K X.mg X.base k fa fd ps (spF X.K X.mg φ n)) (hgd : X.A.guards = some []) (hr : Room k X.A) (tk : Takes X W.w) (hm : X.mg x = some (.ref fa))
    (hk : PySem.W.keepIn X.K (.ref fa) = true) (hb : Binds X.K fd ps []) (hg : Gl X x) (ha : SA X W (e :: es) ma) (hdb : (x == ("__debug__" : Str)) = false := by decide)
    (he : starEach (e :: es) X.env = (false, eval e X.env) :: starEach es X.env := by rfl) (hpl : (backTo pos (starEach es X.env)).any (·.1) = false := by rfl) : SE X W (.Call (.Name x p) (e :: es) [] pos) (eCall n φ ma) := by
  obtain ⟨t, pt, qt⟩ := ha.ex
  refine ⟨_, pe_callG G hgd hr hg hm hk hb (fun σ => passAt tk σ) pt hdb he hpl, fun g hw F ρ σ H Q rel z => ?_⟩
  unfold eCall at z
  rw [RP_bnd] at z
  refine qt g hw F ρ σ H _ rel (z.imp (fun as ρ1 z1 => ?_) fun _ _ k => k)
  intro vs F1 H1 e1 rel1 ok1
  rw [RP_bnd] at z1
  obtain ⟨ds, F2, ρ2, e2, r2, h2, z2⟩ := aliL_ok rel1 ok1 z1
  rw [RP_bnd] at z2
  obtain ⟨hn, z2⟩ := RP_grd z2
  refine ⟨F2, ds, hn, r2.ext, h2, ?_⟩
  · unfold kCall at z2
    cases hφ : φ (ds.map Sl.val) with
    | bad => rw [hφ] at z2; exact z2
    | exc er ρ' =>
      rw [hφ] at z2
      intro cls d F' H' c ek
      exact z2 cls d σ F' H' ((e1.trans e2).trans c.e1) (r2.called c) ek
    | ok rv ρ' =>
      rw [hφ] at z2
      intro v F' H' c rk
      exact z2 v F' H' ((e1.trans e2).trans c.e1) (r2.called c) (RvC.ok r2 (r2.called c) (r2.calledO c) rk)
/-- .. whose first argument is the mutable thing of slot i, turned by it -/
def kCallI (i : Nat) (r : R RV) : M RV := fun ρ => match r with
  | .ok rv ρ' => match (ρ'[0]? : Option Sl) with
    | some (Sl.mu true d) => match putMu i d ρ with
      | .ok _ ρ2 => .ok rv ρ2
      | _ => .bad
    | _ => .bad
  | .exc er ρ' => match (ρ'[0]? : Option Sl) with
    | some (Sl.mu true d) => match putMu i d ρ with
      | .ok _ ρ2 => .exc er ρ2
      | _ => .bad
    | _ => .bad
  | .bad => .bad
def eCallI (i n : Nat) (φ : List Sl → R RV) (ma : M (List AV)) : M RV := do
  let _ ← getMu i
  let as ← ma
  let ds ← aliL as
  M.grd (ds.length = n)
  let d0 ← getMu i
  kCallI i (φ (Sl.mu true d0 :: ds.map Sl.val))
theorem se_callI (i : Nat) {k n : Nat} {fa : Addr} {fd : FuncData} {ps : List Str} {φ : List Sl → R RV} {y : Str} {py : Pos} {ma : M (List AV)} (G : FnG X.prog X.w X.K X.mg X.base k fa fd ps (spI X.K X.mg φ n)) (hgd : X.A.guards = some []) (hr : Room k X.A) (tk : Takes X W.w) (hm : X.mg x = some (.ref fa))
    (hk : PySem.W.keepIn X.K (.ref fa) = true) (hb : Binds X.K fd ps []) (hg : Gl X x) (ha : SA X W es ma) (hN : X.N[i]? = some y := by rfl) (hv : Vis X.env.scope y := by first | exact Or.inl rfl | exact Or.inr (Or.inl rfl) | exact Or.inr (Or.inr rfl))
    (hd : (y == ("__debug__" : Str)) = false := by decide) (hcd : (y == ("__classdict__" : Str)) = false := by decide) (hdb : (x == ("__debug__" : Str)) = false := by decide)
    (he : starEach (.Name y py :: es) X.env = (false, eval (.Name y py) X.env) :: starEach es X.env := by rfl) (hpl : (backTo pos (starEach es X.env)).any (·.1) = false := by rfl) : SE X W (.Call (.Name x p) (.Name y py :: es) [] pos) (eCallI i n φ ma) := by
  obtain ⟨t, pt, qt⟩ := ha.ex
  refine ⟨_, pe_callG G hgd hr hg hm hk hb (fun σ => passAt tk σ) (pa_cons (pv i hN hv hd hcd) pt he) hdb he hpl, fun g hw F ρ σ H Q rel z => ?_⟩
  unfold eCallI at z
  rw [RP_bnd] at z
  obtain ⟨_, _, p00, _, _, w2, _, _, z⟩ := getMu_ok rel z
  rw [RP_bnd] at z
  have key : ∀ {v0 : V}, σ[i]? = some (some v0) → t σ H fun vs H1 => spI X.K X.mg φ n (v0 :: vs) H1 Q (WE W.w σ) := fun {v0} hv0 => by
    refine qt g hw F ρ σ H _ rel (z.imp (fun as ρ1 z1 => ?_) fun _ _ k => k)
    intro vs F1 H1 e1 rel1 ok1
    rw [RP_bnd] at z1
    obtain ⟨ds, F2, ρ2, e2, r2, h2, z2⟩ := aliL_ok rel1 ok1 z1
    rw [RP_bnd] at z2
    obtain ⟨hn, z2⟩ := RP_grd z2
    rw [RP_bnd] at z2
    obtain ⟨b, d0, p0, o, m1, m2, m3, m4, z3⟩ := getMu_ok r2 z2
    rw [hv0] at m2; cases m2
    obtain ⟨q, u, n1, n2, n3, n4, _⟩ := r2.mu i b d0 m1
    rw [hv0] at n1; cases n1
    refine ⟨F2, d0, p0, o, ds, vs, rfl, hn, r2.ext, n2, m3, m4, h2, ?_⟩
    unfold kCallI at z3
    cases hφ : φ (Sl.mu true d0 :: ds.map Sl.val) with
    | bad => simp only [hφ] at z3; exact z3
    | exc er ρ' =>
      simp only [hφ] at z3
      intro cls d F' H' d' o' c e0 f1 f2 f3 ek
      simp only [e0] at z3
      unfold putMu at z3
      simp only [m1] at z3
      exact z3 cls d σ F' H' ((e1.trans e2).trans c.e1) (r2.calledI m1 hv0 c f1 f2 f3) ek
    | ok rv ρ' =>
      simp only [hφ] at z3
      intro v F' H' d' o' c e0 f1 f2 f3 rk
      simp only [e0] at z3
      unfold putMu at z3
      simp only [m1] at z3
      exact z3 v F' H' ((e1.trans e2).trans c.e1) (r2.calledI m1 hv0 c f1 f2 f3) (RvC.ok r2 (r2.calledI m1 hv0 c f1 f2 f3) (r2.calledIO m1 hv0 c f1 f2 f3).2 rk)
  exact ⟨_, w2, key w2⟩
end
end P0
end
section
set_option Elab.async false
set_option linter.all false
set_option maxRecDepth 100000
set_option maxHeartbeats 4000000
/-! P0, targets, walks, comprehensions. -/
namespace P0
open PySem PySem.Spec L2
open PyProof.Rows hiding St

/-! ### targets -/
section
variable (X : Cx) (g : Gx) (F : Hp) (σ : L2.St) (sl : List Nat)
def okV (Q : L2.St → Hp → Prop) (_ : Unit) (ρ' : VE) : Prop := ∀ σ' F' H', Ext F F' → Rel X.K g F' ρ' σ' H' → σ'.length = σ.length → (∀ j, j ∉ sl → σ'[j]? = σ[j]?) → Q σ' H'
end
structure SG (X : Cx) (tg : Expr) (sl : List Nat) (mg : Dv → M Unit) : Prop where
  ex : ∃ t, PG X tg t ∧ ∀ g F ρ σ H v d Q ex, Rel X.K g F ρ σ H → Rep X.K F d v → RP (mg d ρ) (okV X g F σ sl Q) ex → t v σ H Q
structure SGs (X : Cx) (es : List Expr) (sl : List Nat) (mg : List Dv → M Unit) : Prop where
  ex : ∃ t, PGs X es t ∧ ∀ g F ρ σ H vs ds Q ex, Rel X.K g F ρ σ H → Reps X.K F ds vs → RP (mg ds ρ) (okV X g F σ sl Q) ex → t vs σ H Q
def setS (i : Nat) (d : Dv) : M Unit := fun ρ => match (ρ[i]? : Option Sl) with
  | some (Sl.mu true _) => .bad
  | some _ => .ok () (ρ.set i (Sl.val d))
  | none => .bad
theorem setS_ok {K : PySem.W.Frag} {g : Gx} {F H : Hp} {ρ : VE} {σ : L2.St} {i : Nat} {d : Dv} {v : V} {ok : Unit → VE → Prop} {ex : Er → VE → Prop} (r : Rel K g F ρ σ H) (hd : Rep K F d v) (z : RP (setS i d ρ) ok ex) : Rel K g F (ρ.set i (Sl.val d)) (σ.set i (some v)) H ∧ ok () (ρ.set i (Sl.val d)) := by
  unfold setS at z
  cases e : (ρ[i]? : Option Sl) with
  | none => simp only [e] at z; exact z.elim
  | some s =>
    simp only [e] at z
    cases s with
    | no => exact ⟨r.setVal (fun f h => by rw [e] at h; cases h) hd, z⟩
    | exn => exact ⟨r.setVal (fun f h => by rw [e] at h; cases h) hd, z⟩
    | ot t => exact ⟨r.setVal (fun f h => by rw [e] at h; cases h) hd, z⟩
    | val f => exact ⟨r.setVal (fun f h => by rw [e] at h; cases h) hd, z⟩
    | mu b f =>
      cases b with
      | true => exact z.elim
      | false => exact ⟨r.setVal (fun f h => by rw [e] at h; cases h) hd, z⟩
section
variable {X : Cx} {W : Wh} {e c : Expr} {es : List Expr} {pos p : Pos}
theorem sg_name (i : Nat) {x : Str} (hN : X.N.Nodup) (hi : X.N[i]? = some x := by rfl) (hx : Loc X.env.scope x := by first | exact Or.inl rfl | exact Or.inr rfl) (hf : X.fn x = true ∨ X.env.scope.names.lookup x = some .local := by first | exact .inl rfl | exact .inr rfl) : SG X (.Name x pos) [i] (setS i) := by
  refine ⟨gName i, pg_name hN hi hx hf, fun g F ρ σ H v d Q ex r hd z => ?_⟩
  obtain ⟨r1, z1⟩ := setS_ok r hd z
  refine z1 _ F H (Ext.refl F) r1 (by rw [List.length_set]) fun j hj => ?_
  rw [List.getElem?_set_ne (fun q => hj (by rw [← q]; exact List.mem_singleton.mpr rfl))]
def gN : List Dv → M Unit
  | [] => pure ()
  | _ :: _ => M.bad
def gC (mg : Dv → M Unit) (mgs : List Dv → M Unit) : List Dv → M Unit
  | [] => M.bad
  | d :: ds => do
    mg d
    mgs ds
theorem sgs_nil : SGs X [] [] gN := by
  refine ⟨gNil, pgs_nil, fun g F ρ σ H vs ds Q ex r hd z => ?_⟩
  cases hd with
  | nil => exact ⟨rfl, z σ F H (Ext.refl F) r rfl fun _ _ => rfl⟩
  | cons a b => exact z.elim
theorem sgs_cons {sl sl' : List Nat} {mg : Dv → M Unit} {mgs : List Dv → M Unit} (h : SG X e sl mg) (h' : SGs X es sl' mgs) (hs : (assignEach (e :: es) X.env).map (·.2) = assign e X.env :: (assignEach es X.env).map (·.2) := by rfl) : SGs X (e :: es) (sl ++ sl') (gC mg mgs) := by
  obtain ⟨t, pt, qt⟩ := h.ex
  obtain ⟨u, pu, qu⟩ := h'.ex
  refine ⟨_, pgs_cons pt pu hs, fun g F ρ σ H vs ds Q ex r hd z => ?_⟩
  cases hd with
  | nil => exact z.elim
  | cons a b =>
    unfold gC at z
    rw [RP_bnd] at z
    refine ⟨_, _, rfl, qt g F ρ σ H _ _ _ ex r a (z.imp (fun _ ρ1 z1 => ?_) fun _ _ k => k)⟩
    intro σ1 F1 H1 e1 r1 l1 k1
    refine qu g F1 ρ1 σ1 H1 _ _ Q ex r1 (b.mono e1) (z1.imp (fun _ ρ2 z2 => ?_) fun _ _ k => k)
    intro σ2 F2 H2 e2 r2 l2 k2
    refine z2 σ2 F2 H2 (e1.trans e2) r2 (l2.trans l1) fun j hj => ?_
    rw [k2 j (fun q => hj (List.mem_append_right _ q)), k1 j (fun q => hj (List.mem_append_left _ q))]
def tup? : Dv → Option (List Dv)
  | .tup xs => some xs
  | _ => none
theorem tup?_eq {d : Dv} {xs : List Dv} (h : tup? d = some xs) : d = .tup xs := by
  cases d <;> first | (cases h; rfl) | cases h
def gT (n : Nat) (mgs : List Dv → M Unit) (d : Dv) : M Unit := do
  let xs ← M.opt (tup? d)
  M.grd (xs.length = n)
  mgs xs
theorem Rep.tupI {K : PySem.W.Frag} {F : Hp} {xs : List Dv} {v : V} (h : Rep K F (.tup xs) v) : ∃ a vs, v = .ref a ∧ SqT K F a vs ∧ Reps K F xs vs := by
  cases h with
  | tup a b => exact ⟨_, _, rfl, a, b⟩
theorem sg_tup {k n : Nat} {sl : List Nat} {mgs : List Dv → M Unit} (hc : X.calm = true) (h : SGs X es sl mgs) (hn : (assignEach es X.env).length = n := by rfl) (hst : (assignEach es X.env).findIdx? (·.1) = none := by rfl) : SG X (.Tuple es k pos) sl (gT n mgs) := by
  obtain ⟨t, pt, qt⟩ := h.ex
  refine ⟨_, pg_tup hc pt hn hst, fun g F ρ σ H v d Q ex r hd z => ?_⟩
  unfold gT at z
  rw [RP_bnd] at z
  obtain ⟨xs, hx, y⟩ := RP_opt z
  obtain rfl := tup?_eq hx
  rw [RP_bnd] at y
  obtain ⟨hl, y2⟩ := RP_grd y
  obtain ⟨a, vs, rfl, h1, h2⟩ := hd.tupI
  exact ⟨a, vs, rfl, SqT.ext r.ext h1, by rw [← h2.length]; exact hl, qt g F ρ σ H vs xs Q ex r h2 y2⟩

/-! ### walks -/
structure ItOk (K : PySem.W.Frag) (J : It) (F : Hp) (ds : List Dv) : Prop where
  stop : ∀ F1 H1, Ext F F1 → Ext F1 H1 → J.stop ds.length H1
  go : ∀ i F1 H1, i < ds.length → Ext F F1 → Ext F1 H1 → J.go i H1
  yld : ∀ i d F1 H1 x H2, ds[i]? = some d → Ext F F1 → Ext F1 H1 → J.yld i H1 x H2 → (H2 = H1 ∧ Rep K F1 d x) ∨ ∃ T vs es, x = .ref T ∧ H1 T = none ∧ H2 = upd H1 T (.tup vs) ∧ d = .tup es ∧ Reps K F1 es vs
structure SI (X : Cx) (W : Wh) (tg iter : Expr) (m : M (List Dv)) : Prop where
  ex : ∃ w, PI X tg iter w ∧ ∀ g, W.p g → ∀ F ρ σ H R, Rel X.K g F ρ σ H → RP (m ρ) (fun ds ρ' => ∀ J F' H', Ext F F' → Rel X.K g F' ρ' σ H' → ItOk X.K J F' ds → R J H') (exE X g F W) → w σ H R
theorem PI_or {tg iter : Expr} {w w' : TI} (h : PI X tg iter w) (h' : PI X tg iter w') : PI X tg iter (fun σ H R => w σ H R ∨ w' σ H R) := by
  refine ⟨fun pins s σ H R I q => ?_⟩
  rcases q with q | q
  · exact h.run pins s σ H R I q
  · exact h'.run pins s σ H R I q
def chars (x : Str) : List Dv := x.cps.toList.map fun c => Dv.str ⟨#[c]⟩
def walk? : Dv → Option (List Dv)
  | .str x => some (chars x)
  | d => items? d
def iSeq (ma : M AV) : M (List Dv) := do
  let a ← ma
  let d ← ali a
  M.opt (walk? d)
theorem itOk_list {K : PySem.W.Frag} {F : Hp} {a : Addr} {vs : List V} {ds : List Dv} (h : SqL K F a vs) (r : Reps K F ds vs) : ItOk K (Itl K a) F ds where
  stop := fun F1 H1 e1 e2 => ⟨vs, SqL.ext e2 (SqL.ext e1 h), by rw [r.length]; exact Nat.le_refl _⟩
  go := fun i F1 H1 hi e1 e2 => ⟨vs, vs[i]'(by rw [← r.length]; exact hi), SqL.ext e2 (SqL.ext e1 h), List.getElem?_eq_getElem _⟩
  yld := fun i d F1 H1 x H2 hd e1 e2 hy => by
    obtain ⟨rfl, k⟩ := hy
    obtain ⟨v, h1, h2⟩ := r.get hd
    have := k vs (SqL.ext e2 (SqL.ext e1 h))
    rw [h1] at this; cases this
    exact .inl ⟨rfl, h2.mono e1⟩
theorem itOk_tup {K : PySem.W.Frag} {F : Hp} {a : Addr} {vs : List V} {ds : List Dv} (h : SqT K F a vs) (r : Reps K F ds vs) : ItOk K (Itt K a) F ds where
  stop := fun F1 H1 e1 e2 => ⟨vs, SqT.ext e2 (SqT.ext e1 h), by rw [r.length]; exact Nat.le_refl _⟩
  go := fun i F1 H1 hi e1 e2 => ⟨vs, vs[i]'(by rw [← r.length]; exact hi), SqT.ext e2 (SqT.ext e1 h), List.getElem?_eq_getElem _⟩
  yld := fun i d F1 H1 x H2 hd e1 e2 hy => by
    obtain ⟨rfl, k⟩ := hy
    obtain ⟨v, h1, h2⟩ := r.get hd
    have := k vs (SqT.ext e2 (SqT.ext e1 h))
    rw [h1] at this; cases this
    exact .inl ⟨rfl, h2.mono e1⟩
theorem itOk_str {K : PySem.W.Frag} {F : Hp} {x : Str} : ItOk K (Its x) F (chars x) where
  stop := fun F1 H1 e1 e2 => by show x.cps.size ≤ (chars x).length; simp [chars]
  go := fun i F1 H1 hi e1 e2 => by show i < x.cps.size; simpa [chars] using hi
  yld := fun i d F1 H1 y H2 hd e1 e2 hy => by
    obtain ⟨rfl, c, h1, rfl⟩ := hy
    refine .inl ⟨rfl, ?_⟩
    unfold chars at hd
    rw [List.getElem?_map, Array.getElem?_toList, h1] at hd
    cases hd
    exact .str _
theorem si_seq {tg : Expr} {ma : M AV} (h : SF X W e ma) : SI X W tg e (iSeq ma) := by
  obtain ⟨t, pt, qt⟩ := h.ex
  refine ⟨_, PI_or (pi_list pt) (PI_or (pi_tup pt) (pi_str pt)), fun g hw F ρ σ H R rel z => ?_⟩
  unfold iSeq at z
  -- which of the three it is hangs on the value
  have key : ∀ {P : V → Hp → Prop} {ok : Dv → Prop}, (∀ v F' ρ' H' d, Ext F F' → Rel X.K g F' ρ' σ H' → Rep X.K F' d v → RP (M.opt (walk? d) ρ') (fun ds ρ' => ∀ J F'' H'', Ext F F'' → Rel X.K g F'' ρ' σ H'' → ItOk X.K J F'' ds → R J H'') (exE X g F W) → ok d → P v H') →
      (∀ av ρ1 d ρ2, ma ρ = .ok av ρ1 → ali av ρ1 = .ok d ρ2 → ok d) → t σ H P := fun {P ok} hP hok => by
    rw [RP_bnd] at z
    cases hm : ma ρ with
    | bad => rw [hm] at z; exact z.elim
    | exc er ρ1 => rw [hm] at z; refine qt g hw F ρ σ H _ rel ?_; rw [hm]; exact z
    | ok av ρ1 =>
      rw [hm] at z
      refine qt g hw F ρ σ H _ rel ?_
      rw [hm]
      intro v F1 H1 e1 rel1 ok1
      have z1 : RP ((ali av >>= fun d => M.opt (walk? d)) ρ1) _ _ := z
      rw [RP_bnd] at z1
      cases ha : ali av ρ1 with
      | bad => rw [ha] at z1; exact z1.elim
      | exc er ρ2 => 
        rw [ha] at z1
        exfalso
        unfold ali at ha
        split at ha
        · cases ha
        · split at ha <;> cases ha
      | ok d ρ2 =>
        obtain ⟨d', F2, ρ2', e2, r2, h2, z2⟩ := ali_ok rel1 ok1 (ok := fun d' ρ' => d' = d ∧ ρ' = ρ2) (ex := fun _ _ => False) (by rw [ha]; exact ⟨rfl, rfl⟩)
        obtain ⟨rfl, rfl⟩ := z2
        rw [ha] at z1
        exact hP v F2 ρ2' H1 d' (e1.trans e2) r2 h2 z1 (hok av ρ1 d' ρ2' hm ha)
  cases hm : ma ρ with
  | bad => rw [RP_bnd, hm] at z; exact z.elim
  | exc er ρ1 => exact .inl (key (ok := fun _ => False) (fun v F' ρ' H' d _ _ _ _ k => k.elim) fun av ρ1' d ρ2 h1 => by rw [hm] at h1; cases h1)
  | ok av ρ1 =>
    cases ha : ali av ρ1 with
    | bad =>
      rw [RP_bnd, hm] at z
      have z1 : RP ((ali av >>= fun d => M.opt (walk? d)) ρ1) _ _ := z
      rw [RP_bnd, ha] at z1
      exact z1.elim
    | exc er ρ2 =>
      exfalso
      unfold ali at ha
      split at ha
      · cases ha
      · split at ha <;> cases ha
    | ok d ρ2 =>
      have hok : ∀ av' ρ1' d' ρ2', ma ρ = .ok av' ρ1' → ali av' ρ1' = .ok d' ρ2' → d' = d := fun av' ρ1' d' ρ2' h1 h2 => by
        rw [hm] at h1; cases h1
        rw [ha] at h2; cases h2
        rfl
      cases d with
      | lst xs =>
        refine .inl (key (ok := fun d' => d' = .lst xs) (fun v F' ρ' H' d' e1 r1 h1 z1 k => ?_) hok)
        subst k
        cases h1 with
        | @lst a _ vs k1 k2 => exact ⟨a, rfl, ⟨vs, SqL.of (r1.ext _ _ k1)⟩, z1 _ F' H' e1 r1 (itOk_list (SqL.of k1) k2)⟩
      | rls xs =>
        refine .inl (key (ok := fun d' => d' = .rls xs) (fun v F' ρ' H' d' e1 r1 h1 z1 k => ?_) hok)
        subst k
        cases h1 with
        | @rls a _ vs k1 k2 => exact ⟨a, rfl, ⟨vs, SqL.ext r1.ext k1⟩, z1 _ F' H' e1 r1 (itOk_list k1 k2)⟩
      | tup xs =>
        refine .inr (.inl (key (ok := fun d' => d' = .tup xs) (fun v F' ρ' H' d' e1 r1 h1 z1 k => ?_) hok))
        subst k
        cases h1 with
        | @tup a _ vs k1 k2 => exact ⟨a, rfl, ⟨vs, SqT.ext r1.ext k1⟩, z1 _ F' H' e1 r1 (itOk_tup k1 k2)⟩
      | str x =>
        refine .inr (.inr (key (ok := fun d' => d' = .str x) (fun v F' ρ' H' d' e1 r1 h1 z1 k => ?_) hok))
        subst k
        cases h1
        exact ⟨x, rfl, z1 _ F' H' e1 r1 itOk_str⟩
      | _ =>
        rw [RP_bnd, hm] at z
        have z1 : RP ((ali av >>= fun d => M.opt (walk? d)) ρ1) _ _ := z
        rw [RP_bnd, ha] at z1
        exact z1.elim
/-- range -/
def rng (lo : Int) (n : Nat) : List Dv := (List.range n).map fun i : Nat => Dv.int (lo + i)
theorem itOk_rng {K : PySem.W.Frag} {F : Hp} {lo : Int} {n : Nat} : ItOk K (Itr lo n) F (rng lo n) where
  stop := fun F1 H1 e1 e2 => by show n ≤ (rng lo n).length; simp [rng]
  go := fun i F1 H1 hi e1 e2 => by show i < n; simpa [rng] using hi
  yld := fun i d F1 H1 y H2 hd e1 e2 hy => by
    obtain ⟨rfl, rfl⟩ := hy
    refine .inl ⟨rfl, ?_⟩
    unfold rng at hd
    rw [List.getElem?_map] at hd
    cases q : (List.range n)[i]? with
    | none => rw [q] at hd; cases hd
    | some j =>
      rw [q] at hd; cases hd
      have : j = i := by
        rw [List.getElem?_range] at q
        · cases q; rfl
        · rcases Nat.lt_or_ge i n with h | h
          · exact h
          · rw [List.getElem?_eq_none (by simpa using h)] at q; cases q
      subst this
      exact .int _
def iRange1 (ma : M (List AV)) : M (List Dv) := do
  let as ← ma
  let ds ← conL as
  let ns ← M.opt (ints? ds)
  match ns with
  | [j] => do
    M.grd (-(2 ^ 62) ≤ j ∧ j < 2 ^ 62)
    pure (rng 0 j.toNat)
  | _ => M.bad
def iRange2 (ma : M (List AV)) : M (List Dv) := do
  let as ← ma
  let ds ← conL as
  let ns ← M.opt (ints? ds)
  match ns with
  | [i, j] => do
    M.grd (-(2 ^ 62) ≤ i ∧ i < 2 ^ 62 ∧ -(2 ^ 62) ≤ j ∧ j < 2 ^ 62)
    pure (rng i (j - i).toNat)
  | _ => M.bad
/-- lo, lo + c, .. -/
def rngC (lo c : Int) (n : Nat) : List Dv := (List.range n).map fun i : Nat => Dv.int (lo + i * c)
def iRange3 (ma : M (List AV)) : M (List Dv) := do
  let as ← ma
  let ds ← conL as
  let ns ← M.opt (ints? ds)
  match ns with
  | [i, j, c] => do
    M.grd (c ≠ 0 ∧ c.natAbs < 1073741824 ∧ Builtin.Range.small i j c = true ∧ 0 ≤ Builtin.Range.rangeSize i j c)
    pure (rngC i c (Builtin.Range.rangeSize i j c).toNat)
  | _ => M.bad
theorem itOk_rngC {K : PySem.W.Frag} {F : Hp} {lo c : Int} {n : Nat} : ItOk K (Itc lo c n) F (rngC lo c n) where
  stop := fun F1 H1 e1 e2 => by show n ≤ (rngC lo c n).length; simp [rngC]
  go := fun i F1 H1 hi e1 e2 => by show i < n; simpa [rngC] using hi
  yld := fun i d F1 H1 y H2 hd e1 e2 hy => by
    obtain ⟨rfl, rfl⟩ := hy
    refine .inl ⟨rfl, ?_⟩
    unfold rngC at hd
    rw [List.getElem?_map] at hd
    cases q : (List.range n)[i]? with
    | none => rw [q] at hd; cases hd
    | some j =>
      rw [q] at hd; cases hd
      have : j = i := by
        rw [List.getElem?_range] at q
        · cases q; rfl
        · rcases Nat.lt_or_ge i n with h | h
          · exact h
          · rw [List.getElem?_eq_none (by simpa using h)] at q; cases q
      subst this
      exact .int _
theorem tops_ints {K : PySem.W.Frag} {F H : Hp} : ∀ {ns : List Int} {vs : List V}, Paired (Top K F H) (ns.map Dv.int) vs → vs = ns.map V.int
  | [], _, h => by rw [List.map_nil] at h; cases h; rfl
  | n :: ns, _, h => by
    rw [List.map_cons] at h
    cases h with
    | cons a t => rw [a.int, tops_ints t, List.map_cons]
theorem si_range1 {tg a : Expr} {ma : M (List AV)} (hg : Gl X "range") (hm : X.mg "range" = none) (ha : SA X W [a] ma) (hs : starEach [a] X.env = [(false, eval a X.env)] := by rfl) : SI X W tg (.Call (.Name "range" p) [a] [] pos) (iRange1 ma) := by
  obtain ⟨t, pt, qt⟩ := ha.ex
  refine ⟨_, pi_range1 hg hm pt hs, fun g hw F ρ σ H R rel z => ?_⟩
  unfold iRange1 at z
  rw [RP_bnd] at z
  refine qt g hw F ρ σ H _ rel (z.imp (fun as ρ1 z1 => ?_) fun _ _ k => k)
  intro vs F1 H1 e1 rel1 ok1
  rw [RP_bnd] at z1
  obtain ⟨ds, h1, z2⟩ := conL_ok rel1 ok1 z1
  rw [RP_bnd] at z2
  obtain ⟨ns, hn, z3⟩ := RP_opt z2
  obtain rfl := ints?_eq hn
  obtain rfl := tops_ints h1
  split at z3
  · rw [RP_bnd] at z3
    obtain ⟨⟨k1, k2⟩, z4⟩ := RP_grd z3
    exact ⟨_, rfl, k1, k2, z4 _ F1 H1 e1 rel1 itOk_rng⟩
  · exact z3.elim
theorem si_range2 {tg a b : Expr} {ma : M (List AV)} (hg : Gl X "range") (hm : X.mg "range" = none) (ha : SA X W [a, b] ma) (hs : starEach [a, b] X.env = [(false, eval a X.env), (false, eval b X.env)] := by rfl)
    (hs2 : starEach [b] X.env = [(false, eval b X.env)] := by rfl) : SI X W tg (.Call (.Name "range" p) [a, b] [] pos) (iRange2 ma) := by
  obtain ⟨t, pt, qt⟩ := ha.ex
  refine ⟨_, pi_range2 hg hm pt hs hs2, fun g hw F ρ σ H R rel z => ?_⟩
  unfold iRange2 at z
  rw [RP_bnd] at z
  refine qt g hw F ρ σ H _ rel (z.imp (fun as ρ1 z1 => ?_) fun _ _ k => k)
  intro vs F1 H1 e1 rel1 ok1
  rw [RP_bnd] at z1
  obtain ⟨ds, h1, z2⟩ := conL_ok rel1 ok1 z1
  rw [RP_bnd] at z2
  obtain ⟨ns, hn, z3⟩ := RP_opt z2
  obtain rfl := ints?_eq hn
  obtain rfl := tops_ints h1
  split at z3
  · rw [RP_bnd] at z3
    obtain ⟨k1, z4⟩ := RP_grd z3
    exact ⟨_, _, rfl, k1, z4 _ F1 H1 e1 rel1 itOk_rng⟩
  · exact z3.elim
theorem si_range3 {tg a b c : Expr} {ma : M (List AV)} (hg : Gl X "range") (hm : X.mg "range" = none) (ha : SA X W [a, b, c] ma) (hs : starEach [a, b, c] X.env = (false, eval a X.env) :: starEach [b, c] X.env := by rfl)
    (hpl : (backTo pos (starEach [b, c] X.env)).any (·.1) = false := by rfl) : SI X W tg (.Call (.Name "range" p) [a, b, c] [] pos) (iRange3 ma) := by
  obtain ⟨t, pt, qt⟩ := ha.ex
  refine ⟨_, pi_range3 hg hm pt hs hpl, fun g hw F ρ σ H R rel z => ?_⟩
  unfold iRange3 at z
  rw [RP_bnd] at z
  refine qt g hw F ρ σ H _ rel (z.imp (fun as ρ1 z1 => ?_) fun _ _ k => k)
  intro vs F1 H1 e1 rel1 ok1
  rw [RP_bnd] at z1
  obtain ⟨ds, h1, z2⟩ := conL_ok rel1 ok1 z1
  rw [RP_bnd] at z2
  obtain ⟨ns, hn, z3⟩ := RP_opt z2
  obtain rfl := ints?_eq hn
  obtain rfl := tops_ints h1
  split at z3
  · rw [RP_bnd] at z3
    obtain ⟨⟨k1, k2, k3, k4⟩, z4⟩ := RP_grd z3
    exact ⟨_, _, _, _, rfl, ⟨k1, k2, k3, (Int.toNat_of_nonneg k4).symm⟩, z4 _ F1 H1 e1 rel1 itOk_rngC⟩
  · exact z3.elim
/-- enumerate of a list -/
def enumD (xs : List Dv) : List Dv := xs.zipIdx.map fun p => Dv.tup [.int p.2, p.1]
def iEnumL (ma : M (List AV)) : M (List Dv) := do
  let as ← ma
  let ds ← aliL as
  match ds with
  | [.lst xs] => pure (enumD xs)
  | [.rls xs] => pure (enumD xs)
  | _ => M.bad
theorem enumD_at {xs : List Dv} {i : Nat} {d : Dv} (h : (enumD xs)[i]? = some d) : ∃ x, xs[i]? = some x ∧ d = .tup [.int (i : Nat), x] := by
  unfold enumD at h
  rw [List.getElem?_map, List.getElem?_zipIdx] at h
  cases q : xs[i]? with
  | none => rw [q] at h; cases h
  | some x =>
    rw [q] at h; cases h
    exact ⟨x, rfl, by simp⟩
theorem itOk_enum {K : PySem.W.Frag} {F : Hp} {a : Addr} {vs : List V} {ds : List Dv} (h : SqL K F a vs) (r : Reps K F ds vs) : ItOk K (Ite K a) F (enumD ds) where
  stop := fun F1 H1 e1 e2 => ⟨vs, SqL.ext e2 (SqL.ext e1 h), by simp [enumD, r.length]⟩
  go := fun i F1 H1 hi e1 e2 => ⟨vs, vs[i]'(by rw [← r.length]; simpa [enumD] using hi), SqL.ext e2 (SqL.ext e1 h), List.getElem?_eq_getElem _⟩
  yld := fun i d F1 H1 x H2 hd e1 e2 hy => by
    obtain ⟨T, y, rfl, hT, rfl, k⟩ := hy
    obtain ⟨z, hz, rfl⟩ := enumD_at hd
    obtain ⟨v, h1, h2⟩ := r.get hz
    have := k vs (SqL.ext e2 (SqL.ext e1 h))
    rw [h1] at this; cases this
    exact .inr ⟨T, _, _, rfl, hT, rfl, rfl, .cons (.int _) (.cons (h2.mono e1) .nil)⟩
theorem rep1 {K : PySem.W.Frag} {F : Hp} {d : Dv} {vs : List V} (h : Reps K F [d] vs) : ∃ v, vs = [v] ∧ Rep K F d v := by
  cases h with
  | cons a t => cases t; exact ⟨_, rfl, a⟩
theorem rep2 {K : PySem.W.Frag} {F : Hp} {d d' : Dv} {vs : List V} (h : Reps K F [d, d'] vs) : ∃ v u, vs = [v, u] ∧ Rep K F d v ∧ Rep K F d' u := by
  cases h with
  | cons a t =>
    obtain ⟨u, rfl, k⟩ := rep1 t
    exact ⟨_, u, rfl, a, k⟩
theorem Rep.lstI {K : PySem.W.Frag} {F : Hp} {xs : List Dv} {v : V} (h : Rep K F (.lst xs) v) : ∃ a vs, v = .ref a ∧ F a = some (.lst vs) ∧ Reps K F xs vs := by
  cases h with
  | lst a b => exact ⟨_, _, rfl, a, b⟩
theorem Rep.rlsI {K : PySem.W.Frag} {F : Hp} {xs : List Dv} {v : V} (h : Rep K F (.rls xs) v) : ∃ a vs, v = .ref a ∧ SqL K F a vs ∧ Reps K F xs vs := by
  cases h with
  | rls a b => exact ⟨_, _, rfl, a, b⟩
theorem si_enum {a : Expr} {tpos : Pos} {elts : List Expr} {kk : Nat} {ma : M (List AV)} (hg : Gl X "enumerate") (hm : X.mg "enumerate" = none) (ha : SA X W [a] ma) (hs : starEach [a] X.env = [(false, eval a X.env)] := by rfl) : SI X W (.Tuple elts kk tpos) (.Call (.Name "enumerate" p) [a] [] pos) (iEnumL ma) := by
  obtain ⟨t, pt, qt⟩ := ha.ex
  refine ⟨_, pi_enum hg hm pt hs, fun g hw F ρ σ H R rel z => ?_⟩
  unfold iEnumL at z
  rw [RP_bnd] at z
  refine qt g hw F ρ σ H _ rel (z.imp (fun as ρ1 z1 => ?_) fun _ _ k => k)
  intro vs F1 H1 e1 rel1 ok1
  rw [RP_bnd] at z1
  obtain ⟨ds, F2, ρ2, e2, r2, h2, z2⟩ := aliL_ok rel1 ok1 z1
  split at z2
  · obtain ⟨v, rfl, h3⟩ := rep1 h2
    obtain ⟨a, us, rfl, k1, k2⟩ := h3.lstI
    exact ⟨a, us, rfl, SqL.of (r2.ext _ _ k1), z2 _ F2 H1 (e1.trans e2) r2 (itOk_enum (SqL.of k1) k2)⟩
  · obtain ⟨v, rfl, h3⟩ := rep1 h2
    obtain ⟨a, us, rfl, k1, k2⟩ := h3.rlsI
    exact ⟨a, us, rfl, SqL.ext r2.ext k1, z2 _ F2 H1 (e1.trans e2) r2 (itOk_enum k1 k2)⟩
  · exact z2.elim
/-- zip of two lists -/
def zipD (xs ys : List Dv) : List Dv := (xs.zip ys).map fun p => Dv.tup [p.1, p.2]
def iZipL (ma : M (List AV)) : M (List Dv) := do
  let as ← ma
  let ds ← aliL as
  match ds with
  | [.lst xs, .lst ys] => pure (zipD xs ys)
  | _ => M.bad
theorem zipD_at {xs ys : List Dv} {i : Nat} {d : Dv} (h : (zipD xs ys)[i]? = some d) : ∃ x y, xs[i]? = some x ∧ ys[i]? = some y ∧ d = .tup [x, y] := by
  unfold zipD at h
  rw [List.getElem?_map] at h
  cases q : (xs.zip ys)[i]? with
  | none => rw [q] at h; cases h
  | some p =>
    rw [q] at h; cases h
    obtain ⟨h1, h2⟩ := List.getElem?_zip_eq_some.mp q
    exact ⟨p.1, p.2, h1, h2, rfl⟩
theorem itOk_zip {K : PySem.W.Frag} {F : Hp} {a b : Addr} {vs us : List V} {ds es : List Dv} (h : SqL K F a vs) (h' : SqL K F b us) (r : Reps K F ds vs) (r' : Reps K F es us) : ItOk K (Itz K a b) F (zipD ds es) where
  stop := fun F1 H1 e1 e2 => ⟨vs, us, SqL.ext e2 (SqL.ext e1 h), SqL.ext e2 (SqL.ext e1 h'), by
    have : (zipD ds es).length = min ds.length es.length := by simp [zipD]
    rw [this, r.length, r'.length]
    omega⟩
  go := fun i F1 H1 hi e1 e2 => by
    have : (zipD ds es).length = min ds.length es.length := by simp [zipD]
    rw [this, r.length, r'.length] at hi
    exact ⟨vs, us, vs[i]'(by omega), us[i]'(by omega), SqL.ext e2 (SqL.ext e1 h), SqL.ext e2 (SqL.ext e1 h'), List.getElem?_eq_getElem _, List.getElem?_eq_getElem _⟩
  yld := fun i d F1 H1 x H2 hd e1 e2 hy => by
    obtain ⟨T, y, z, rfl, hT, rfl, k, k'⟩ := hy
    obtain ⟨p, q, hp, hq, rfl⟩ := zipD_at hd
    obtain ⟨v, h1, h2⟩ := r.get hp
    obtain ⟨u, h3, h4⟩ := r'.get hq
    have z1 := k vs (SqL.ext e2 (SqL.ext e1 h))
    rw [h1] at z1; cases z1
    have z2 := k' us (SqL.ext e2 (SqL.ext e1 h'))
    rw [h3] at z2; cases z2
    exact .inr ⟨T, _, _, rfl, hT, rfl, rfl, .cons (h2.mono e1) (.cons (h4.mono e1) .nil)⟩
theorem si_zip {a b : Expr} {tpos : Pos} {elts : List Expr} {kk : Nat} {ma : M (List AV)} (hg : Gl X "zip") (hm : X.mg "zip" = none) (ha : SA X W [a, b] ma) (hs : starEach [a, b] X.env = (false, eval a X.env) :: starEach [b] X.env := by rfl)
    (hpl : (backTo pos (starEach [b] X.env)).any (·.1) = false := by rfl) : SI X W (.Tuple elts kk tpos) (.Call (.Name "zip" p) [a, b] [] pos) (iZipL ma) := by
  obtain ⟨t, pt, qt⟩ := ha.ex
  refine ⟨_, pi_zip hg hm pt hs hpl, fun g hw F ρ σ H R rel z => ?_⟩
  unfold iZipL at z
  rw [RP_bnd] at z
  refine qt g hw F ρ σ H _ rel (z.imp (fun as ρ1 z1 => ?_) fun _ _ k => k)
  intro vs F1 H1 e1 rel1 ok1
  rw [RP_bnd] at z1
  obtain ⟨ds, F2, ρ2, e2, r2, h2, z2⟩ := aliL_ok rel1 ok1 z1
  split at z2
  · obtain ⟨v, u, rfl, h3, h4⟩ := rep2 h2
    obtain ⟨a, us, rfl, k1, k2⟩ := h3.lstI
    obtain ⟨b, ws, rfl, k3, k4⟩ := h4.lstI
    exact ⟨a, b, us, ws, rfl, SqL.of (r2.ext _ _ k1), SqL.of (r2.ext _ _ k3), z2 _ F2 H1 (e1.trans e2) r2 (itOk_zip (SqL.of k1) (SqL.of k3) k2 k4)⟩
  · exact z2.elim

/-! ### comprehensions -/
/-- the slots agree where the environment knows something -/
theorem Rel.rebase {K : PySem.W.Frag} {g : Gx} {F H : Hp} {ρ : VE} {σ σ' : L2.St} (r : Rel K g F ρ σ H) (hl : σ'.length = σ.length) (h : ∀ (j : Nat) (s : Sl), ρ[j]? = some s → s ≠ .no → σ'[j]? = σ[j]?) : Rel K g F ρ σ' H where
  ext := r.ext
  f0 := r.f0
  new := r.new
  keep := r.keep
  dom := r.dom
  io := fun i p e => by
    obtain ⟨h1, d, h2⟩ := r.io i p e
    rw [h i _ h2 (fun z => by cases z)]; exact ⟨h1, d, h2⟩
  own := by
    obtain ⟨Rs, w⟩ := r.own
    refine ⟨Rs, { len := by rw [hl]; exact w.len, lenR := w.lenR, ok := fun i s x R h1 h2 h3 => ?_, nd := w.nd, dis := w.dis, out := w.out, hel := w.hel }⟩
    by_cases hs : s = .no
    · subst hs
      obtain ⟨x', R', _, k2, k3⟩ := w.at' h1
      rw [h3] at k2; cases k2
      exact k3
    · exact w.ok i s x R h1 (by rw [← h i s h1 hs]; exact h2) h3
/-- a slot is forgotten -/
theorem Rel.forget {K : PySem.W.Frag} {g : Gx} {F H : Hp} {ρ : VE} {σ : L2.St} {i : Nat} (r : Rel K g F ρ σ H) (hn : ∀ e, ρ[i]? ≠ some (Sl.mu true e)) : Rel K g F (ρ.set i Sl.no) σ H := r.dropSl hn
def wipeE (ρ : VE) : List Nat → VE
  | [] => ρ
  | i :: is => (wipeE ρ is).set i .no
def isIo : Option Sl → Bool
  | some (.mu true _) => true
  | _ => false
/-- the block's own slots are forgotten -/
def wipeM (vs : List Nat) : M Unit := fun ρ => if vs.any (fun i => isIo (ρ[i]? : Option Sl)) = true then .bad else .ok () (wipeE ρ vs)
theorem wipeE_io {i : Nat} : ∀ {ρ : VE} {vs : List Nat}, isIo ((wipeE ρ vs)[i]? : Option Sl) = true → isIo (ρ[i]? : Option Sl) = true
  | _, [], h => h
  | ρ, v :: vs, h => by
    unfold wipeE at h
    rw [List.getElem?_set] at h
    split at h
    · split at h <;> cases h
    · exact wipeE_io h
theorem Rel.wipeE {K : PySem.W.Frag} {g : Gx} {F H : Hp} {ρ : VE} {σ : L2.St} (r : Rel K g F ρ σ H) : ∀ {vs : List Nat}, vs.any (fun i => isIo (ρ[i]? : Option Sl)) = false → Rel K g F (wipeE ρ vs) σ H
  | [], _ => r
  | v :: vs, h => by
    rw [List.any_cons, Bool.or_eq_false_iff] at h
    refine (Rel.wipeE r h.2).forget fun e q => ?_
    have := wipeE_io (ρ := ρ) (vs := vs) (i := v) (by rw [q]; rfl)
    rw [this] at h; cases h.1
theorem wipeE_at {ρ : VE} : ∀ {vs : List Nat} {j : Nat} {s : Sl}, (wipeE ρ vs)[j]? = some s → s ≠ .no → j ∉ vs
  | [], _, _, _, _ => List.not_mem_nil
  | v :: vs, j, s, h, n => by
    unfold wipeE at h
    rw [List.getElem?_set] at h
    split at h
    · split at h
      · cases h; exact absurd rfl n
      · cases h
    · rename_i hv
      intro hm
      rcases List.mem_cons.mp hm with z | z
      · exact hv z.symm
      · exact wipeE_at h n z
theorem wipe_at {σ : L2.St} : ∀ {vs : List Nat} {j : Nat}, j ∉ vs → (wipe σ vs)[j]? = σ[j]?
  | [], _, _ => rfl
  | v :: vs, j, h => by
    unfold wipe
    rw [List.getElem?_set_ne (fun z => h (by rw [z]; exact List.mem_cons_self))]
    exact wipe_at (fun z => h (List.mem_cons_of_mem _ z))
theorem wipe_congr {σ σ' : L2.St} {vs : List Nat} (hl : σ'.length = σ.length) (h : ∀ j, j ∉ vs → σ'[j]? = σ[j]?) : wipe σ' vs = wipe σ vs := by
  refine List.ext_getElem? fun j => ?_
  by_cases hj : j ∈ vs
  · have : ∀ (τ : L2.St) (us : List Nat), j ∈ us → (wipe τ us)[j]? = if j < τ.length then some none else none := by
      intro τ us
      induction us with
      | nil => intro h; cases h
      | cons u us ih =>
        intro h
        unfold wipe
        by_cases z : u = j
        · subst z
          rw [List.getElem?_set, if_pos rfl, wipe_length]
        · rw [List.getElem?_set_ne z]
          rcases List.mem_cons.mp h with q | q
          · exact absurd q.symm z
          · exact ih q
    rw [this _ _ hj, this _ _ hj, hl]
  · rw [wipe_at hj, wipe_at hj, h j hj]
/-- the turns -/
def compL (vs : List Nat) (mg : Dv → M Unit) (mt : M Bool) (me : M AV) : List Dv → List Dv → M (List Dv)
  | [], acc => do
    wipeM vs
    pure acc
  | d :: ds, acc => do
    wipeM vs
    mg d
    let b ← mt
    if b = true then do
      let a ← me
      let y ← ali a
      M.grd (acc.length < sizeLine)
      compL vs mg mt me ds (acc ++ [y])
    else compL vs mg mt me ds acc
def noX {α : Type} (m : M α) : M α := fun ρ => match m ρ with
  | .ok a ρ' => .ok a ρ'
  | .exc _ _ => .bad
  | .bad => .bad
theorem RP_noX {α : Type} {m : M α} {ρ : VE} {ok : α → VE → Prop} {ex : Er → VE → Prop} (h : RP (noX m ρ) ok ex) : RP (m ρ) ok (fun _ _ => False) := by
  unfold noX at h
  cases q : m ρ with
  | ok a ρ' => rw [q] at h; exact h
  | exc e ρ' => rw [q] at h; exact h.elim
  | bad => rw [q] at h; exact h.elim
def eComp (vs : List Nat) (mi : M (List Dv)) (mg : Dv → M Unit) (mt : M Bool) (me : M AV) : M RV := do
  let ds ← mi
  let r ← noX (compL vs mg mt me ds [])
  pure (.fr (.lst r))
theorem wipeM_ok {vs : List Nat} {ρ : VE} {ok : Unit → VE → Prop} {ex : Er → VE → Prop} (h : RP (wipeM vs ρ) ok ex) : vs.any (fun i => isIo (ρ[i]? : Option Sl)) = false ∧ ok () (wipeE ρ vs) := by
  unfold wipeM at h
  split at h
  · exact h.elim
  · rename_i c
    exact ⟨Bool.eq_false_iff.mpr c, h⟩
theorem compL_wipe {vs : List Nat} {mg : Dv → M Unit} {mt : M Bool} {me : M AV} {ds acc : List Dv} {ρ : VE} {ok : List Dv → VE → Prop} {ex : Er → VE → Prop} (h : RP (compL vs mg mt me ds acc ρ) ok ex) : vs.any (fun i => isIo (ρ[i]? : Option Sl)) = false := by
  cases ds with
  | nil =>
    unfold compL at h
    rw [RP_bnd] at h
    exact (wipeM_ok h).1
  | cons d ds =>
    unfold compL at h
    rw [RP_bnd] at h
    exact (wipeM_ok h).1
/-- no exception leaves a block -/
abbrev W0 : Wh := ⟨fun _ _ _ _ => False, fun _ => True⟩
theorem SF.can {m : M AV} (h : SF X W0 e m) : PE X e (fun σ H Q => ∃ g F ρ, Rel X.K g F ρ σ H ∧ RP (m ρ) (okF X g F σ Q) (exE X g F W0)) := by
  obtain ⟨t, pt, qt⟩ := h.ex
  exact ⟨fun pins s σ H Q I ⟨g, F, ρ, r, z⟩ => pt.run pins s σ H Q I (qt g True.intro F ρ σ H Q r z)⟩
theorem STt.can {m : M Bool} (h : STt X W0 e m) : PT X e (fun σ H Q => ∃ g F ρ, Rel X.K g F ρ σ H ∧ RP (m ρ) (okT X g F σ Q) (exE X g F W0)) := by
  obtain ⟨t, pt, qt⟩ := h.ex
  exact ⟨fun pins s σ H Q I ⟨g, F, ρ, r, z⟩ => pt.run pins s σ H Q I (qt g True.intro F ρ σ H Q r z)⟩
theorem SG.can {sl : List Nat} {mg : Dv → M Unit} (h : SG X e sl mg) : PG X e (fun v σ H Q => ∃ g F ρ d ex, Rel X.K g F ρ σ H ∧ Rep X.K F d v ∧ RP (mg d ρ) (okV X g F σ sl Q) ex) := by
  obtain ⟨t, pt, qt⟩ := h.ex
  exact ⟨fun pins s σ H v u Q I rv ⟨g, F, ρ, d, ex, r, hd, z⟩ => pt.run pins s σ H v u Q I rv (qt g F ρ σ H v d Q ex r hd z)⟩
/-- a block's tests -/
structure STs (X : Cx) (W : Wh) (ifs : List Expr) (m : M Bool) : Prop where
  ex : ∃ t, PTs X ifs t ∧ ∀ g, W.p g → ∀ F ρ σ H Q, Rel X.K g F ρ σ H → RP (m ρ) (okT X g F σ Q) (exE X g F W) → t σ H Q
theorem sts_nil : STs X W [] (pure true) := ⟨tYes, pts_nil, fun g hw F ρ σ H Q rel z => z F H (Ext.refl F) rel⟩
theorem sts_one {m : M Bool} (h : STt X W c m) : STs X W [c] m := by
  obtain ⟨t, pt, qt⟩ := h.ex
  exact ⟨t, pts_one pt, qt⟩
theorem STs.can {ifs : List Expr} {m : M Bool} (h : STs X W0 ifs m) : PTs X ifs (fun σ H Q => ∃ g F ρ, Rel X.K g F ρ σ H ∧ RP (m ρ) (okT X g F σ Q) (exE X g F W0)) := by
  obtain ⟨t, pt, qt⟩ := h.ex
  exact ⟨fun pins s σ H Q I ⟨g, F, ρ, r, z⟩ => pt.run pins s σ H Q I (qt g True.intro F ρ σ H Q r z)⟩
/-- the readings of a block's parts -/
def cE (X : Cx) (m : M AV) : TE := fun σ H Q => ∃ g F ρ, Rel X.K g F ρ σ H ∧ RP (m ρ) (okF X g F σ Q) (exE X g F W0)
def cT (X : Cx) (m : M Bool) : TT := fun σ H Q => ∃ g F ρ, Rel X.K g F ρ σ H ∧ RP (m ρ) (okT X g F σ Q) (exE X g F W0)
def cG (X : Cx) (sl : List Nat) (mg : Dv → M Unit) : TG := fun v σ H Q => ∃ g F ρ d ex, Rel X.K g F ρ σ H ∧ Rep X.K F d v ∧ RP (mg d ρ) (okV X g F σ sl Q) ex
theorem comp_sem {wi : TI} {mi : M (List Dv)} {sl vs : List Nat} {mg : Dv → M Unit} {mt : M Bool} {me : M AV} (hs : ∀ i ∈ sl, i ∈ vs) (g : Gx) (F : Hp) (ρ : VE) (σ : L2.St) (H : Hp) (Q : VK)
    (qi : ∀ R, RP (mi ρ) (fun ds ρ' => ∀ J F' H', Ext F F' → Rel X.K g F' ρ' σ H' → ItOk X.K J F' ds → R J H') (exE X g F W) → wi σ H R)
    (z : RP (eComp vs mi mg mt me ρ) (okE X g F σ Q) (exE X g F W)) : tLc wi (cG X sl mg) (cT X mt) (cE X me) vs σ H Q := by
  unfold eComp at z
  rw [RP_bnd] at z
  refine qi _ (z.imp (fun ds ρ1 z1 => ?_) fun _ _ k => k)
  intro J F1 H1 e1 rel1 it D hD
  rw [RP_bnd] at z1
  have z2 := RP_noX z1
  refine ⟨fun i m H => m + i = ds.length ∧ i ≤ ds.length ∧ ∃ F2 ρ2 acc vsA, Ext F1 F2 ∧ Rel X.K (g.hold (one D (.lst vsA))) F2 (wipeE ρ2 vs) σ H ∧ g.H0 D = none ∧ g.held D = none ∧ Reps X.K F2 acc vsA ∧
    RP (compL vs mg mt me (ds.drop i) acc ρ2) (fun a ρ' => RP ((pure (.fr (.lst a)) : M RV) ρ') (okE X g F σ Q) (exE X g F W)) (fun _ _ => False), ⟨ds.length, ?_⟩, ?_⟩
  · have c := compL_wipe z2
    exact ⟨rfl, Nat.zero_le _, F1, ρ1, [], [], Ext.refl F1, (rel1.allocH hD).wipeE c, rel1.freeH0 hD, rel1.noHeld hD, .nil, z2⟩
  · rintro i m H2 ⟨hm, hi, F2, ρ2, acc, vsA, e2, rel2, h0, hh, ra, z3⟩
    obtain ⟨hHD, hFD⟩ := rel2.heldAt
    rcases Nat.lt_or_ge i ds.length with hlt | hge
    · right
      refine ⟨it.go i F2 H2 hlt e2 rel2.ext, fun H' => ?_, ?_, ?_⟩
      · exact (m - 1) + (i + 1) = ds.length ∧ i + 1 ≤ ds.length ∧ ∃ F2 ρ2 acc vsA, Ext F1 F2 ∧ Rel X.K (g.hold (one D (.lst vsA))) F2 (wipeE ρ2 vs) σ H' ∧ g.H0 D = none ∧ g.held D = none ∧ Reps X.K F2 acc vsA ∧
          RP (compL vs mg mt me (ds.drop (i + 1)) acc ρ2) (fun a ρ' => RP ((pure (.fr (.lst a)) : M RV) ρ') (okE X g F σ Q) (exE X g F W)) (fun _ _ => False)
      · intro H' h'
        exact ⟨m - 1, by omega, h'⟩
      · intro x H3 hy
        have hd : ds[i]? = some ds[i] := List.getElem?_eq_getElem hlt
        have hdrop : ds.drop i = ds[i] :: ds.drop (i + 1) := List.drop_eq_getElem_cons hlt
        rw [hdrop] at z3
        unfold compL at z3
        rw [RP_bnd] at z3
        obtain ⟨cw, z4⟩ := wipeM_ok z3
        -- into the block
        have inB : Rel X.K (g.hold (one D (.lst vsA))) F2 (wipeE ρ2 vs) (wipe σ vs) H2 := rel2.rebase (wipe_length σ vs) fun j s hj hn => wipe_at (wipeE_at hj hn)
        have step : ∃ F3, Ext F2 F3 ∧ Rel X.K (g.hold (one D (.lst vsA))) F3 (wipeE ρ2 vs) (wipe σ vs) H3 ∧ Rep X.K F3 ds[i] x := by
          rcases it.yld i ds[i] F2 H2 x H3 hd e2 rel2.ext hy with ⟨rfl, hr⟩ | ⟨T, ws, es, rfl, hT, rfl, he, hr⟩
          · exact ⟨F2, Ext.refl F2, inB, hr⟩
          · have hF := inB.ext.none hT
            refine ⟨_, ext_upd hF, (inB.allocH hT).freeze (inB.freeH0 hT) (inB.noHeld hT), ?_⟩
            rw [he]
            exact .tup (SqT.of upd_same) (hr.mono (ext_upd hF))
        obtain ⟨F3, e3, rel3, hrep⟩ := step
        rw [RP_bnd] at z4
        refine ⟨_, F3, wipeE ρ2 vs, ds[i], _, rel3, hrep, z4.imp (fun _ ρ4 z5 => ?_) fun _ _ k => k⟩
        intro σ2 F4 H4 e4 rel4 l4 k4
        have agree : ∀ j, j ∉ vs → σ2[j]? = σ[j]? := fun j hj => by rw [k4 j (fun q => hj (hs j q)), wipe_at hj]
        have l2 : σ2.length = σ.length := by rw [l4, wipe_length]
        refine ⟨wipe_congr l2 agree, ?_⟩
        rw [RP_bnd] at z5
        refine ⟨_, F4, ρ4, rel4, z5.imp (fun b ρ5 z6 => ?_) fun _ _ k => k.elim⟩
        intro F5 H5 e5 rel5
        -- behind the turn
        have out : ∀ {F7 : Hp} {ρ7 : VE} {H7 : Hp} {acc' : List Dv} {vsA' : List V}, Rel X.K (g.hold (one D (.lst vsA'))) F7 ρ7 σ2 H7 → Ext F1 F7 → Reps X.K F7 acc' vsA' →
            RP (compL vs mg mt me (ds.drop (i + 1)) acc' ρ7) (fun a ρ' => RP ((pure (.fr (.lst a)) : M RV) ρ') (okE X g F σ Q) (exE X g F W)) (fun _ _ => False) →
            (m - 1) + (i + 1) = ds.length ∧ i + 1 ≤ ds.length ∧ ∃ F2 ρ2 acc vsA, Ext F1 F2 ∧ Rel X.K (g.hold (one D (.lst vsA))) F2 (wipeE ρ2 vs) σ H7 ∧ g.H0 D = none ∧ g.held D = none ∧ Reps X.K F2 acc vsA ∧
              RP (compL vs mg mt me (ds.drop (i + 1)) acc ρ2) (fun a ρ' => RP ((pure (.fr (.lst a)) : M RV) ρ') (okE X g F σ Q) (exE X g F W)) (fun _ _ => False) := by
          intro F7 ρ7 H7 acc' vsA' r7 e7 ra7 z7
          have c7 := compL_wipe z7
          exact ⟨by omega, by omega, F7, ρ7, acc', vsA', e7, (r7.wipeE c7).rebase l2.symm fun j s hj hn => (agree j (wipeE_at hj hn)).symm, h0, hh, ra7, z7⟩
        have E5 : Ext F1 F5 := ((e2.trans e3).trans e4).trans e5
        cases b with
        | false =>
          simp only [Bool.false_eq_true, if_false] at z6 ⊢
          exact out rel5 E5 (ra.mono ((e3.trans e4).trans e5)) z6
        | true =>
          simp only [if_pos] at z6 ⊢
          rw [RP_bnd] at z6
          refine ⟨_, F5, ρ5, rel5, z6.imp (fun av ρ6 z7 => ?_) fun _ _ k => k.elim⟩
          intro y F6 H6 e6 rel6 ok6
          rw [RP_bnd] at z7
          obtain ⟨dy, F7, ρ7, e7, r7, h7, z8⟩ := ali_ok rel6 ok6 z7
          rw [RP_bnd] at z8
          obtain ⟨hlen, z9⟩ := RP_grd z8
          refine ⟨vsA, r7.heldAt.1, by rw [← ra.length]; exact hlen, ?_⟩
          exact out (r7.writeH h0 hh) ((E5.trans e6).trans e7) ((ra.mono ((((e3.trans e4).trans e5).trans e6).trans e7)).append (.cons h7 .nil)) z9
    · left
      have hi' : i = ds.length := Nat.le_antisymm hi hge
      subst hi'
      refine ⟨it.stop F2 H2 e2 rel2.ext, ?_⟩
      rw [List.drop_length] at z3
      unfold compL at z3
      rw [RP_bnd] at z3
      obtain ⟨_, z4⟩ := wipeM_ok z3
      exact z4 (.ref D) F2 H2 (e1.trans e2) (rel2.unhold (one_held hh)) ⟨D, _, rfl, .lst ra, h0, hh, rel2⟩
end
end P0
end
section
set_option Elab.async false
set_option linter.all false
set_option maxRecDepth 100000
set_option maxHeartbeats 4000000
/-! P0, statements. -/
namespace P0
open PySem PySem.Spec L2
open PyProof.Rows hiding St

section
variable {X : Cx} {W : Wh} {a b c e iter tg elt : Expr} {es ifs : List Expr} {st : Stmt} {sts : List Stmt} {pos p : Pos} {scope : Scope}
theorem se_comp {call : Expr} {vs sl : List Nat} {mi : M (List Dv)} {mg : Dv → M Unit} {mt : M Bool} {me : M AV} (hi : SI X W tg iter mi)
    (hg : ∀ (s : Shared) (H : Hp) (C : Addr) (cl : List (Str × Addr)) (fp : List Addr), SG (X.blk s H scope (compEnvC scope cl C X.env) fp) tg sl mg)
    (ht : ∀ (s : Shared) (H : Hp) (C : Addr) (cl : List (Str × Addr)) (fp : List Addr), STs (X.blk s H scope (compEnvC scope cl C X.env) fp) W0 ifs mt)
    (he : ∀ (s : Shared) (H : Hp) (C : Addr) (cl : List (Str × Addr)) (fp : List Addr), SF (X.blk s H scope (compEnvC scope cl C X.env) fp) W0 elt me)
    (hs : ∀ i ∈ sl, i ∈ vs)
    (pb : ∀ (wi : TI) (g : TG) (tt : TT) (te : TE), PI X tg iter wi → (∀ (s : Shared) (H : Hp) (C : Addr) (cl : List (Str × Addr)) (fp : List Addr), PG (X.blk s H scope (compEnvC scope cl C X.env) fp) tg g) →
      (∀ (s : Shared) (H : Hp) (C : Addr) (cl : List (Str × Addr)) (fp : List Addr), PTs (X.blk s H scope (compEnvC scope cl C X.env) fp) ifs tt) →
      (∀ (s : Shared) (H : Hp) (C : Addr) (cl : List (Str × Addr)) (fp : List Addr), PE (X.blk s H scope (compEnvC scope cl C X.env) fp) elt te) → PE X call (tLc wi g tt te vs)) : SE X W call (eComp vs mi mg mt me) := by
  obtain ⟨w, pw, qw⟩ := hi.ex
  refine ⟨_, pb w (cG X sl mg) (cT X mt) (cE X me) pw (fun s H C cl fp => (hg s H C cl fp).can) (fun s H C cl fp => (ht s H C cl fp).can) (fun s H C cl fp => (he s H C cl fp).can), fun g hw F ρ σ H Q rel z => ?_⟩
  exact comp_sem (W := W) hs g F ρ σ H Q (fun R => qw g hw F ρ σ H R rel) z

/-! ### blocks -/
def sNil : M Fl := pure .nx
def sSeq (m n : M Fl) : M Fl := do
  let f ← m
  match f with
  | .nx => n
  | .bk => pure .bk
  | .ct => pure .ct
  | .rt r => pure (.rt r)
theorem ss_nil : SSs X W [] sNil := ⟨tNext, pss_nil, fun g hw F ρ σ H D rel z => z σ F H (Ext.refl F) rel⟩
theorem ss_cons {m n : M Fl} (h : SS X W st m) (h' : SSs X W sts n) : SSs X W (st :: sts) (sSeq m n) := by
  obtain ⟨t, pt, qt⟩ := h.ex
  obtain ⟨u, pu, qu⟩ := h'.ex
  refine ⟨_, pss_cons pt pu, fun g hw F ρ σ H D rel z => ?_⟩
  unfold sSeq at z
  rw [RP_bnd] at z
  refine qt g hw F ρ σ H _ rel (z.imp (fun f ρ1 z1 => ?_) fun _ _ k => k)
  intro σ1 F1 H1 e1 rel1
  cases f with
  | nx => exact qu g hw F1 ρ1 σ1 H1 D rel1 (z1.imp (fun _ _ k => k.ext e1) fun _ _ k => k.ext e1)
  | bk => exact z1 σ1 F1 H1 e1 rel1
  | ct => exact z1 σ1 F1 H1 e1 rel1
  | rt r => exact z1 σ1 F1 H1 e1 rel1
theorem ss_one {m : M Fl} (h : SS X W st m) : SSs X W [st] m := by
  obtain ⟨t, pt, qt⟩ := h.ex
  exact ⟨_, pss_one pt, qt⟩
theorem st_pass : SS X W (.Pass pos) sNil := ⟨tNext, ps_pass, fun g hw F ρ σ H D rel z => z σ F H (Ext.refl F) rel⟩
theorem st_doc {x j pos'} : SS X W (.Expr (.Constant (.str x) j pos) pos') sNil := ⟨tNext, ps_doc, fun g hw F ρ σ H D rel z => z σ F H (Ext.refl F) rel⟩
def sBreak : M Fl := pure .bk
def sCont : M Fl := pure .ct
theorem st_break : SS X W (.Break pos) sBreak := ⟨tBreak, ps_break, fun g hw F ρ σ H D rel z => z σ F H (Ext.refl F) rel⟩
theorem st_continue : SS X W (.Continue pos) sCont := ⟨tCont, ps_continue, fun g hw F ρ σ H D rel z => z σ F H (Ext.refl F) rel⟩
/-- an expression for its effect -/
def sExpr (m : M RV) : M Fl := do
  let _ ← m
  pure .nx
theorem st_expr {m : M RV} (h : SE X W e m) (hs : swapsWith e none pos.line X.env = pure false := by rfl) : SS X W (.Expr e pos) (sExpr m) := by
  obtain ⟨t, pt, qt⟩ := h.ex
  refine ⟨_, ps_expr pt hs, fun g hw F ρ σ H D rel z => ?_⟩
  unfold sExpr at z
  rw [RP_bnd] at z
  refine qt g hw F ρ σ H _ rel (z.imp (fun rv ρ1 z1 => ?_) fun _ _ k => k)
  intro v F1 H1 e1 rel1 _
  exact z1 σ F1 H1 e1 rel1
def sRet (m : M RV) : M Fl := do
  let r ← m
  pure (.rt r)
theorem st_ret {m : M RV} (h : SE X W e m) : SS X W (.Return (some e) pos) (sRet m) := by
  obtain ⟨t, pt, qt⟩ := h.ex
  refine ⟨_, ps_ret pt, fun g hw F ρ σ H D rel z => ?_⟩
  unfold sRet at z
  rw [RP_bnd] at z
  refine qt g hw F ρ σ H _ rel (z.imp (fun rv ρ1 z1 => ?_) fun _ _ k => k)
  intro v F1 H1 e1 rel1 ok1
  exact z1 σ F1 H1 e1 rel1 v ok1
def sRetN : M Fl := pure (.rt (.d .non))
theorem st_retN : SS X W (.Return none pos) sRetN := ⟨tRetN, ps_retN, fun g hw F ρ σ H D rel z => z σ F H (Ext.refl F) rel .non .non⟩
def sIf (c : M Bool) (m n : M Fl) : M Fl := do
  let b ← c
  if b = true then m else n
theorem st_if {k : M Bool} {m n : M Fl} {sa sb : List Stmt} (hc : STt X W c k) (h : SSs X W sa m) (h' : SSs X W sb n) : SS X W (.If c sa sb pos) (sIf k m n) := by
  obtain ⟨t0, p0, q0⟩ := hc.ex
  obtain ⟨t, pt, qt⟩ := h.ex
  obtain ⟨u, pu, qu⟩ := h'.ex
  refine ⟨_, ps_if p0 pt pu, fun g hw F ρ σ H D rel z => ?_⟩
  unfold sIf at z
  rw [RP_bnd] at z
  refine q0 g hw F ρ σ H _ rel (z.imp (fun b ρ1 z1 => ?_) fun _ _ k => k)
  intro F1 H1 e1 rel1
  cases b with
  | true =>
    simp only [if_pos] at z1 ⊢
    exact qt g hw F1 ρ1 σ H1 D rel1 (z1.imp (fun _ _ k => k.ext e1) fun _ _ k => k.ext e1)
  | false =>
    simp only [Bool.false_eq_true, if_false] at z1 ⊢
    exact qu g hw F1 ρ1 σ H1 D rel1 (z1.imp (fun _ _ k => k.ext e1) fun _ _ k => k.ext e1)

/-! ### stores -/
def setF (i : Nat) (d : Dv) : M Unit := fun ρ => match (ρ[i]? : Option Sl) with
  | some (Sl.mu true _) => .bad
  | some _ => .ok () (ρ.set i (Sl.mu false d))
  | none => .bad
def setO (i : Nat) (t : Ot) : M Unit := fun ρ => match (ρ[i]? : Option Sl) with
  | some (Sl.mu true _) => .bad
  | some _ => .ok () (ρ.set i (Sl.ot t))
  | none => .bad
/-- x = value -/
def putV (i : Nat) : RV → M Unit
  | .d d => setS i d
  | .fr d => setF i d
  | .ow t => setO i t
  | .bor j => do
    let d ← ali (.bor j)
    setS i d
theorem notIo {ρ : VE} {i : Nat} {s : Sl} (e : (ρ[i]? : Option Sl) = some s) (h : ∀ d, s ≠ .mu true d) : ∀ d, ρ[i]? ≠ some (Sl.mu true d) := fun d q => h d (by rw [e] at q; exact Option.some.inj q)
theorem putV_ok {K : PySem.W.Frag} {g : Gx} {F H : Hp} {ρ : VE} {σ : L2.St} {i : Nat} {rv : RV} {v : V} {ok : Unit → VE → Prop} {ex : Er → VE → Prop} (r : Rel K g F ρ σ H) (hv : RvOk K g F ρ σ H rv v) (z : RP (putV i rv ρ) ok ex) :
    ∃ F' ρ', Ext F F' ∧ Rel K g F' ρ' (σ.set i (some v)) H ∧ ok () ρ' := by
  cases rv with
  | d d =>
    obtain ⟨r1, z1⟩ := setS_ok r hv z
    exact ⟨F, _, Ext.refl F, r1, z1⟩
  | bor j =>
    unfold putV at z
    rw [RP_bnd] at z
    obtain ⟨d, F1, ρ1, e1, r1, h1, z1⟩ := ali_ok (a := .bor j) (v := v) r hv z
    obtain ⟨r2, z2⟩ := setS_ok r1 h1 z1
    exact ⟨F1, _, e1, r2, z2⟩
  | fr d =>
    obtain ⟨q, o, rfl, h3, h4, h6, r1⟩ := hv
    unfold putV setF at z
    cases e : (ρ[i]? : Option Sl) with
    | none => simp only [e] at z; exact z.elim
    | some s =>
      simp only [e] at z
      have fin : (∀ d, s ≠ .mu true d) → ok () (ρ.set i (Sl.mu false d)) → ∃ F' ρ', Ext F F' ∧ Rel K g F' ρ' (σ.set i (some (.ref q))) H ∧ ok () ρ' := fun hs z => ⟨F, _, Ext.refl F, r1.setFr (notIo e hs) h3 h4 h6, z⟩
      cases s with
      | exn => exact fin (fun _ q => by cases q) z
      | no => exact fin (fun _ q => by cases q) z
      | val f => exact fin (fun _ q => by cases q) z
      | ot f => exact fin (fun _ q => by cases q) z
      | mu b f =>
        cases b with
        | true => exact z.elim
        | false => exact fin (fun _ q => by cases q) z
  | ow t =>
    obtain ⟨R, h1, h2, h3, r1⟩ := hv
    unfold putV setO at z
    cases e : (ρ[i]? : Option Sl) with
    | none => simp only [e] at z; exact z.elim
    | some s =>
      simp only [e] at z
      have fin : (∀ d, s ≠ .mu true d) → ok () (ρ.set i (Sl.ot t)) → ∃ F' ρ', Ext F F' ∧ Rel K g F' ρ' (σ.set i (some v)) H ∧ ok () ρ' := fun hs z => ⟨F, _, Ext.refl F, r1.setOt (notIo e hs) h1 h2 h3, z⟩
      cases s with
      | exn => exact fin (fun _ q => by cases q) z
      | no => exact fin (fun _ q => by cases q) z
      | val f => exact fin (fun _ q => by cases q) z
      | ot f => exact fin (fun _ q => by cases q) z
      | mu b f =>
        cases b with
        | true => exact z.elim
        | false => exact fin (fun _ q => by cases q) z
def sSet (i : Nat) (m : M RV) : M Fl := do
  let r ← m
  putV i r
  pure .nx
theorem set_sem {te : TE} {i : Nat} {m : M RV} (qt : ∀ g, W.p g → ∀ F ρ σ H Q, Rel X.K g F ρ σ H → RP (m ρ) (okE X g F σ Q) (exE X g F W) → te σ H Q) : ∀ g, W.p g → ∀ F ρ σ H D, Rel X.K g F ρ σ H → RP (sSet i m ρ) (okS X g F D) (exE X g F W) → tAsg te (gName i) D σ H := by
  intro g hw F ρ σ H D rel z
  unfold sSet at z
  rw [RP_bnd] at z
  refine qt g hw F ρ σ H _ rel (z.imp (fun rv ρ1 z1 => ?_) fun _ _ k => k)
  intro v F1 H1 e1 rel1 ok1
  rw [RP_bnd] at z1
  obtain ⟨F2, ρ2, e2, r2, z2⟩ := putV_ok rel1 ok1 z1
  exact z2 _ F2 H1 (e1.trans e2) r2
theorem st_set (i : Nat) {x : Str} {pos' : Pos} {m : M RV} (h : SE X W e m) (hN : X.N.Nodup) (hi : X.N[i]? = some x := by rfl) (hx : Loc X.env.scope x := by first | exact Or.inl rfl | exact Or.inr rfl) (hs : swapsWith e (some (.Name x pos')) pos.line X.env = pure false := by rfl)
    (hf : X.fn x = true ∨ X.env.scope.names.lookup x = some .local := by first | exact .inl rfl | exact .inr rfl) : SS X W (.Assign [.Name x pos'] e pos) (sSet i m) := by
  obtain ⟨t, pt, qt⟩ := h.ex
  exact ⟨_, ps_set hN hi hx pt hs hf, set_sem qt⟩
/-- x = [comprehension], by its own rule -/
theorem st_setLc (i : Nat) {stm : Stmt} {vs sl : List Nat} {mi : M (List Dv)} {mg : Dv → M Unit} {mt : M Bool} {me : M AV} (hi : SI X W tg iter mi)
    (hg : ∀ (s : Shared) (H : Hp) (C : Addr) (cl : List (Str × Addr)) (fp : List Addr), SG (X.blk s H scope (compEnvC scope cl C X.env) fp) tg sl mg)
    (ht : ∀ (s : Shared) (H : Hp) (C : Addr) (cl : List (Str × Addr)) (fp : List Addr), STs (X.blk s H scope (compEnvC scope cl C X.env) fp) W0 ifs mt)
    (he : ∀ (s : Shared) (H : Hp) (C : Addr) (cl : List (Str × Addr)) (fp : List Addr), SF (X.blk s H scope (compEnvC scope cl C X.env) fp) W0 elt me)
    (hs : ∀ i ∈ sl, i ∈ vs)
    (pb : ∀ (wi : TI) (g : TG) (tt : TT) (te : TE), PI X tg iter wi → (∀ (s : Shared) (H : Hp) (C : Addr) (cl : List (Str × Addr)) (fp : List Addr), PG (X.blk s H scope (compEnvC scope cl C X.env) fp) tg g) →
      (∀ (s : Shared) (H : Hp) (C : Addr) (cl : List (Str × Addr)) (fp : List Addr), PTs (X.blk s H scope (compEnvC scope cl C X.env) fp) ifs tt) →
      (∀ (s : Shared) (H : Hp) (C : Addr) (cl : List (Str × Addr)) (fp : List Addr), PE (X.blk s H scope (compEnvC scope cl C X.env) fp) elt te) → PS X stm (tAsg (tLc wi g tt te vs) (gName i))) : SS X W stm (sSet i (eComp vs mi mg mt me)) := by
  obtain ⟨w, pw, qw⟩ := hi.ex
  refine ⟨_, pb w (cG X sl mg) (cT X mt) (cE X me) pw (fun s H C cl fp => (hg s H C cl fp).can) (fun s H C cl fp => (ht s H C cl fp).can) (fun s H C cl fp => (he s H C cl fp).can), set_sem fun g hw F ρ σ H Q rel z => ?_⟩
  exact comp_sem (W := W) hs g F ρ σ H Q (fun R => qw g hw F ρ σ H R rel) z
/-- target = value, what is stored frozen -/
def sAsg (m : M AV) (mg : Dv → M Unit) : M Fl := do
  let a ← m
  let d ← ali a
  mg d
  pure .nx
theorem st_asg {sl : List Nat} {m : M AV} {mg : Dv → M Unit} (h : SF X W e m) (hg : SG X tg sl mg) (hs : swapsWithSole [tg] e pos.line X.env = pure false := by rfl) (hw : swappedStores [tg] e X.env = pure none := by rfl)
    (pb : ∀ te g, PE X e te → PG X tg g → PS X (.Assign [tg] e pos) (tAsg te g)) : SS X W (.Assign [tg] e pos) (sAsg m mg) := by
  obtain ⟨t, pt, qt⟩ := h.ex
  obtain ⟨u, pu, qu⟩ := hg.ex
  refine ⟨_, pb t u pt pu, fun g hw F ρ σ H D rel z => ?_⟩
  unfold sAsg at z
  rw [RP_bnd] at z
  refine qt g hw F ρ σ H _ rel (z.imp (fun av ρ1 z1 => ?_) fun _ _ k => k)
  intro v F1 H1 e1 rel1 ok1
  rw [RP_bnd] at z1
  obtain ⟨d, F2, ρ2, e2, r2, h2, z2⟩ := ali_ok rel1 ok1 z1
  rw [RP_bnd] at z2
  refine qu g F2 ρ2 σ H1 v d _ _ r2 h2 (z2.imp (fun _ ρ3 z3 => ?_) fun _ _ k => k)
  intro σ3 F3 H3 e3 r3 _ _
  exact z3 σ3 F3 H3 ((e1.trans e2).trans e3) r3
/-- xs[k] = e, xs the list of slot i -/
def sSetIx (i : Nat) (mv mk : M AV) : M Fl := do
  let v ← mv
  let _ ← getL i
  let k ← mk
  let d ← ali v
  let kd ← con k
  let j ← M.opt (int? kd)
  let xs ← getL i
  let n ← M.opt (ixN xs.length j)
  putMu i (.lst (xs.set n d))
  pure .nx
theorem st_setIx (i : Nat) {stm : Stmt} {mv mk : M AV} (hv : SF X W e mv) (hk : SF X W b mk) (pb : ∀ te ti, PE X e te → PE X b ti → PS X stm (tAsg te (gSub (tVar i) ti rSetL))) : SS X W stm (sSetIx i mv mk) := by
  obtain ⟨t, pt, qt⟩ := hv.ex
  obtain ⟨u, pu, qu⟩ := hk.ex
  refine ⟨_, pb t u pt pu, fun g hw F ρ σ H D rel z => ?_⟩
  unfold sSetIx at z
  rw [RP_bnd] at z
  refine qt g hw F ρ σ H _ rel (z.imp (fun av ρ1 z1 => ?_) fun _ _ k => k)
  intro v F1 H1 e1 rel1 ok1
  rw [RP_bnd] at z1
  obtain ⟨b0, xs0, p0, vs0, m1, m2, m3, m4, z2⟩ := getL_ok rel1 z1
  refine ⟨_, m2, ?_⟩
  rw [RP_bnd] at z2
  refine qu g hw F1 ρ1 σ H1 _ rel1 (z2.imp (fun kv ρ2 z3 => ?_) fun _ _ k => k.ext e1)
  intro w F2 H2 e2 rel2 ok2
  rw [RP_bnd] at z3
  obtain ⟨d, F3, ρ3, e3, r3, h3, z4⟩ := ali_ok rel2 (ok1.mono e2) z3
  rw [RP_bnd] at z4
  obtain ⟨kd, hkd, z5⟩ := con_ok r3 (ok2.mono e3) z4
  rw [RP_bnd] at z5
  obtain ⟨j, hj, z6⟩ := RP_opt z5
  obtain rfl := int?_eq hj
  obtain rfl := hkd.int
  rw [RP_bnd] at z6
  obtain ⟨b1, xs, q, vs, n1, n2, n3, n4, z7⟩ := getL_ok r3 z6
  rw [m2] at n2; cases n2
  rw [RP_bnd] at z7
  obtain ⟨n, hn, z8⟩ := RP_opt z7
  rw [RP_bnd] at z8
  have z9 := putMu_ok n1 z8
  rw [n4.length] at hn
  exact ⟨p0, vs, j, n, rfl, rfl, n3, hn, z9 σ F3 _ ((e1.trans e2).trans e3) (r3.write n1 m2 (.lst (n4.set h3 n)))⟩
/-- d[k] = e, d the dict of slot i -/
def sPut (i : Nat) (mv mk : M AV) : M Fl := do
  let v ← mv
  let _ ← getD' i
  let k ← mk
  let d ← ali v
  let kd ← con k
  let key ← M.opt (key? kd)
  let kvs ← getD' i
  M.grd (kvs.length < sizeLine)
  putMu i (.dct (putD kvs key d))
  pure .nx
theorem st_put (i : Nat) {stm : Stmt} {mv mk : M AV} (hv : SF X W e mv) (hk : SF X W b mk) (pb : ∀ te ti, PE X e te → PE X b ti → PS X stm (sDPut (tVar i) ti te)) : SS X W stm (sPut i mv mk) := by
  obtain ⟨t, pt, qt⟩ := hv.ex
  obtain ⟨u, pu, qu⟩ := hk.ex
  refine ⟨_, pb t u pt pu, fun g hw F ρ σ H D rel z => ?_⟩
  unfold sPut at z
  rw [RP_bnd] at z
  refine qt g hw F ρ σ H _ rel (z.imp (fun av ρ1 z1 => ?_) fun _ _ k => k)
  intro v F1 H1 e1 rel1 ok1
  rw [RP_bnd] at z1
  obtain ⟨b0, xs0, p0, vs0, m1, m2, m3, m4, z2⟩ := getD_ok rel1 z1
  refine ⟨_, m2, ?_⟩
  rw [RP_bnd] at z2
  refine qu g hw F1 ρ1 σ H1 _ rel1 (z2.imp (fun kv ρ2 z3 => ?_) fun _ _ k => k.ext e1)
  intro w F2 H2 e2 rel2 ok2
  rw [RP_bnd] at z3
  obtain ⟨d, F3, ρ3, e3, r3, h3, z4⟩ := ali_ok rel2 (ok1.mono e2) z3
  rw [RP_bnd] at z4
  obtain ⟨kd, hkd, z5⟩ := con_ok r3 (ok2.mono e3) z4
  rw [RP_bnd] at z5
  obtain ⟨key, hj, z6⟩ := RP_opt z5
  obtain rfl := key_V hkd hj
  rw [RP_bnd] at z6
  obtain ⟨b1, kvs, q, qs, n1, n2, n3, n4, z7⟩ := getD_ok r3 z6
  rw [m2] at n2; cases n2
  rw [RP_bnd] at z7
  obtain ⟨hl, z8⟩ := RP_grd z7
  rw [RP_bnd] at z8
  have z9 := putMu_ok n1 z8
  exact ⟨p0, _, rfl, DPut.k n3 (by rw [← Paired.length n4]; exact hl), z9 σ F3 _ ((e1.trans e2).trans e3) (r3.write n1 m2 (RepO.ofD (n4.put h3 key)))⟩
/-- x += e, ints -/
def slInt (i : Nat) : M Int := fun ρ => match (ρ[i]? : Option Sl) with
  | some (.val (.int x)) => .ok x ρ
  | _ => .bad
theorem slInt_ok {K : PySem.W.Frag} {g : Gx} {F H : Hp} {ρ : VE} {σ : L2.St} {i : Nat} {ok : Int → VE → Prop} {ex : Er → VE → Prop} (r : Rel K g F ρ σ H) (z : RP (slInt i ρ) ok ex) : ∃ x, σ[i]? = some (some (V.int x)) ∧ ok x ρ := by
  unfold slInt at z
  split at z
  · rename_i x q
    obtain ⟨v, h1, h2⟩ := r.val i _ q
    cases h2
    exact ⟨x, h1, z⟩
  · exact z.elim
def sAug (f : Int → Int → Int) (i : Nat) (m : M AV) : M Fl := do
  let x ← slInt i
  let a ← m
  let d ← con a
  let j ← M.opt (int? d)
  setS i (.int (f x j))
  pure .nx
theorem st_aug (i : Nat) {x : Str} {op : Operator} {f : Int → Int → Int} {pos' : Pos} {m : M AV} (ho : PIp X op (ipI f)) (h : SF X W e m) (hN : X.N.Nodup) (hi : X.N[i]? = some x := by rfl) (hx : Loc X.env.scope x := by first | exact Or.inl rfl | exact Or.inr rfl)
    (pb : ∀ te, PE X e te → PS X st (tAug i te (ipI f))) : SS X W st (sAug f i m) := by
  obtain ⟨t, pt, qt⟩ := h.ex
  refine ⟨_, pb t pt, fun g hw F ρ σ H D rel z => ?_⟩
  unfold sAug at z
  rw [RP_bnd] at z
  obtain ⟨x0, h1, z1⟩ := slInt_ok rel z
  refine ⟨_, h1, ?_⟩
  rw [RP_bnd] at z1
  refine qt g hw F ρ σ H _ rel (z1.imp (fun av ρ1 z2 => ?_) fun _ _ k => k)
  intro v F1 H1 e1 rel1 ok1
  rw [RP_bnd] at z2
  obtain ⟨d, td, z3⟩ := con_ok rel1 ok1 z2
  rw [RP_bnd] at z3
  obtain ⟨j, hj, z4⟩ := RP_opt z3
  obtain rfl := int?_eq hj
  rw [RP_bnd] at z4
  obtain ⟨r5, z5⟩ := setS_ok rel1 (Rep.int _) z4
  exact ⟨x0, j, rfl, td.int, z5 _ F1 H1 e1 r5⟩

/-! ### loops -/
def forL (mg : Dv → M Unit) (mb : M Fl) : List Dv → M Fl
  | [] => pure .nx
  | d :: ds => do
    mg d
    let f ← mb
    match f with
    | .nx => forL mg mb ds
    | .ct => forL mg mb ds
    | .bk => pure .nx
    | .rt r => pure (.rt r)
def sFor (mi : M (List Dv)) (mg : Dv → M Unit) (mb : M Fl) : M Fl := do
  let ds ← mi
  forL mg mb ds
theorem st_for {sl : List Nat} {body : List Stmt} {mi : M (List Dv)} {mg : Dv → M Unit} {mb : M Fl} (hi : SI X W tg iter mi) (hg : SG X tg sl mg) (hb : SSs X W body mb) (hp : PassesOwn (model X.prog X.w) X.A X.env X.xe) (hc : X.calm = true)
    (hs : ∀ x, foldedSetIterable iter X.env x = pure x := by intro _; rfl) : SS X W (.For tg iter body [] pos) (sFor mi mg mb) := by
  obtain ⟨w, pw, qw⟩ := hi.ex
  obtain ⟨t, pt, qt⟩ := hg.ex
  obtain ⟨u, pu, qu⟩ := hb.ex
  refine ⟨_, ps_for hp hc pw pt pu hs, fun g hw F ρ σ H D rel z => ?_⟩
  unfold sFor at z
  rw [RP_bnd] at z
  refine qw g hw F ρ σ H _ rel (z.imp (fun ds ρ1 z1 => ?_) fun _ _ k => k)
  intro J F1 H1 e1 rel1 it
  refine ⟨fun i m σ H => m + i = ds.length ∧ i ≤ ds.length ∧ ∃ F2 ρ2, Ext F1 F2 ∧ Rel X.K g F2 ρ2 σ H ∧ RP (forL mg mb (ds.drop i) ρ2) (okS X g F D) (exE X g F W), ⟨ds.length, rfl, Nat.zero_le _, F1, ρ1, Ext.refl F1, rel1, z1⟩, ?_⟩
  rintro i m σ2 H2 ⟨hm, hi, F2, ρ2, e2, rel2, z2⟩
  rcases Nat.lt_or_ge i ds.length with hlt | hge
  · right
    refine ⟨it.go i F2 H2 hlt e2 rel2.ext, fun σ' H' => (m - 1) + (i + 1) = ds.length ∧ i + 1 ≤ ds.length ∧ ∃ F2 ρ2, Ext F1 F2 ∧ Rel X.K g F2 ρ2 σ' H' ∧ RP (forL mg mb (ds.drop (i + 1)) ρ2) (okS X g F D) (exE X g F W), fun σ' H' h' => ⟨m - 1, by omega, h'⟩, ?_⟩
    intro x H3 hy
    have hd : ds[i]? = some ds[i] := List.getElem?_eq_getElem hlt
    rw [List.drop_eq_getElem_cons hlt] at z2
    unfold forL at z2
    rw [RP_bnd] at z2
    have step : ∃ F3, Ext F2 F3 ∧ Rel X.K g F3 ρ2 σ2 H3 ∧ Rep X.K F3 ds[i] x := by
      rcases it.yld i ds[i] F2 H2 x H3 hd e2 rel2.ext hy with ⟨rfl, hr⟩ | ⟨T, ws, es, rfl, hT, rfl, he, hr⟩
      · exact ⟨F2, Ext.refl F2, rel2, hr⟩
      · have hF := rel2.ext.none hT
        refine ⟨_, ext_upd hF, (rel2.allocH hT).freeze (rel2.freeH0 hT) (rel2.noHeld hT), ?_⟩
        rw [he]
        exact .tup (SqT.of upd_same) (hr.mono (ext_upd hF))
    obtain ⟨F3, e3, rel3, hrep⟩ := step
    refine qt g F3 ρ2 σ2 H3 x ds[i] _ _ rel3 hrep (z2.imp (fun _ ρ4 z3 => ?_) fun _ _ k => k)
    intro σ4 F4 H4 e4 rel4 _ _
    rw [RP_bnd] at z3
    have E4 : Ext F F4 := ((e1.trans e2).trans e3).trans e4
    refine qu g hw F4 ρ4 σ4 H4 _ rel4 (z3.imp (fun f ρ5 z4 => ?_) fun _ _ k => k.ext E4)
    intro σ5 F5 H5 e5 rel5
    have E5 : Ext F1 F5 := ((e2.trans e3).trans e4).trans e5
    cases f with
    | nx => exact ⟨by omega, by omega, F5, ρ5, E5, rel5, z4⟩
    | ct => exact ⟨by omega, by omega, F5, ρ5, E5, rel5, z4⟩
    | bk => exact z4 σ5 F5 H5 (e1.trans E5) rel5
    | rt r => exact z4 σ5 F5 H5 (e1.trans E5) rel5
  · left
    have hi' : i = ds.length := Nat.le_antisymm hi hge
    subst hi'
    refine ⟨it.stop F2 H2 e2 rel2.ext, ?_⟩
    rw [List.drop_length] at z2
    exact z2 σ2 F2 H2 (e1.trans e2) rel2
def whL (mc : M Bool) (mb : M Fl) : Nat → M Fl
  | 0 => M.bad
  | n + 1 => do
    let b ← mc
    if b = true then do
      let f ← mb
      match f with
      | .nx => whL mc mb n
      | .ct => whL mc mb n
      | .bk => pure .nx
      | .rt r => pure (.rt r)
    else pure .nx
theorem st_while (n : Nat) {body : List Stmt} {mc : M Bool} {mb : M Fl} (hc : STt X W c mc) (hb : SSs X W body mb) (hp : PassesOwn (model X.prog X.w) X.A X.env X.xe) : SS X W (.While c body [] pos) (whL mc mb n) := by
  obtain ⟨t, pt, qt⟩ := hc.ex
  obtain ⟨u, pu, qu⟩ := hb.ex
  refine ⟨_, ps_while hp pt pu, fun g hw F ρ σ H D rel z => ?_⟩
  refine ⟨fun m σ H => ∃ F2 ρ2, Ext F F2 ∧ Rel X.K g F2 ρ2 σ H ∧ RP (whL mc mb m ρ2) (okS X g F D) (exE X g F W), ⟨n, F, ρ, Ext.refl F, rel, z⟩, ?_⟩
  rintro m σ2 H2 ⟨F2, ρ2, e2, rel2, z2⟩
  cases m with
  | zero => exact z2.elim
  | succ m =>
    unfold whL at z2
    rw [RP_bnd] at z2
    refine qt g hw F2 ρ2 σ2 H2 _ rel2 (z2.imp (fun k ρ3 z3 => ?_) fun _ _ k => k.ext e2)
    intro F3 H3 e3 rel3
    cases k with
    | false => exact z3 σ2 F3 H3 (e2.trans e3) rel3
    | true =>
      simp only [if_pos] at z3 ⊢
      rw [RP_bnd] at z3
      refine ⟨fun σ' H' => ∃ F2 ρ2, Ext F F2 ∧ Rel X.K g F2 ρ2 σ' H' ∧ RP (whL mc mb m ρ2) (okS X g F D) (exE X g F W), fun σ' H' h' => ⟨m, Nat.lt_succ_self m, h'⟩, ?_⟩
      refine qu g hw F3 ρ3 σ2 H3 _ rel3 (z3.imp (fun f ρ4 z4 => ?_) fun _ _ k => k.ext (e2.trans e3))
      intro σ4 F4 H4 e4 rel4
      have E4 := (e2.trans e3).trans e4
      cases f with
      | nx => exact ⟨F4, ρ4, E4, rel4, z4⟩
      | ct => exact ⟨F4, ρ4, E4, rel4, z4⟩
      | bk => exact z4 σ4 F4 H4 E4 rel4
      | rt r => exact z4 σ4 F4 H4 E4 rel4
end
end P0
end
section
set_option Elab.async false
set_option linter.all false
set_option maxRecDepth 100000
set_option maxHeartbeats 4000000
/-! P0, exceptions: raised, caught by several named clauses, looked at. -/
namespace P0
open PySem PySem.Spec L2
open PyProof.Rows hiding St

/-! ### an own exception with fields: its __init__ -/
def spInit (K : PySem.W.Frag) (ks : List Str) : Sp := fun vs H Q _ => ∃ a C ws, vs = .ref a :: ws ∧ ws.length = ks.length ∧ OexC K C ∧ (∀ f ∈ ks, PySem.W.findIn K (.ref C) f = some none) ∧ H a = some (exo a C none) ∧
  ∀ dx, H dx = none → dx ≠ a → ∀ H', H' a = some (exo a C (some dx)) → H' dx = some (exd dx (List.zip ks.reverse ws.reverse)) → (∀ b, b ≠ a → b ≠ dx → H' b = H b) → Q .non H'
theorem spInit_len {K : PySem.W.Frag} {ks ps : List Str} (h : ps.length = ks.length + 1) : ∀ vs H Q E, spInit K ks vs H Q E → vs.length = ps.length := by
  rintro vs H Q E ⟨a, C, ws, rfl, h1, _⟩
  rw [List.length_cons, h1, h]
section
variable {K : PySem.W.Frag} {H : Hp} {Q : VK} {E : XK} {vs : List V}
theorem init1 {f : Str} {N : List Str} (h : spInit K [f] vs H Q E) : tOst K f (tVar 0) (tVar 1) { nx := fun _ G => Q .non G, rt := Q } (L2.start N vs) H := by
  obtain ⟨a, C, ws, rfl, hl, T, hno, ha, k⟩ := h
  match ws, hl with
  | [v], _ =>
    refine ⟨v, start_vals rfl, .ref a, start_vals rfl, a, C, rfl, T, hno f List.mem_cons_self, .inl ⟨ha, fun dx hd hne => ?_⟩⟩
    refine k dx hd hne _ upd_same (by rw [upd_ne hne, upd_same]; rfl) fun b h1 h2 => by rw [upd_ne h1, upd_ne h2]
theorem init2 {f f' : Str} {N : List Str} (h : spInit K [f, f'] vs H Q E) : tSeq (tOst K f (tVar 0) (tVar 1)) (tOst K f' (tVar 0) (tVar 2)) { nx := fun _ G => Q .non G, rt := Q } (L2.start N vs) H := by
  obtain ⟨a, C, ws, rfl, hl, T, hno, ha, k⟩ := h
  match ws, hl with
  | [v, u], _ =>
    refine ⟨v, start_vals rfl, .ref a, start_vals rfl, a, C, rfl, T, hno f List.mem_cons_self, .inl ⟨ha, fun dx hd hne => ?_⟩⟩
    refine ⟨u, start_vals rfl, .ref a, start_vals rfl, a, C, rfl, T, hno f' (List.mem_cons_of_mem _ List.mem_cons_self), .inr ⟨dx, [(f, v)], upd_same, by rw [upd_ne hne, upd_same], (by show 1 ≤ 900; decide), ?_⟩⟩
    refine k dx hd hne _ (by rw [upd_ne (Ne.symm hne), upd_same]) upd_same fun b h1 h2 => by rw [upd_ne h2, upd_ne h1, upd_ne h2]
end

section
variable {X : Cx} {W : Wh} {e : Expr} {es : List Expr} {pos p : Pos} {x : Str}
def M.thr {α : Type} (er : Er) : M α := fun ρ => .exc er ρ
/-- raise X(..) -/
def sRaise (name : Str) (ks : List Str) (ma : M (List AV)) : M Fl := do
  let as ← ma
  let ds ← aliL as
  M.grd (ds.length = ks.length)
  M.thr ⟨name, some (List.zip ks.reverse ds.reverse)⟩
theorem st_raise {C fI : Addr} {k : Nat} {fd : FuncData} {ps ks : List Str} {ma : M (List AV)} (T : OexC X.K C) (iC : PySem.W.findIn X.K (.ref C) "__init__" = some (some (.ref fI))) (tI : PySem.W.typeIn X.K (.ref fI) = some (.type "function"))
    (F1 : FnOk X.prog X.w X.K X.mg X.base CX0 k fI fd ps (spInit X.K ks)) (hno : ∀ f ∈ ks, PySem.W.findIn X.K (.ref C) f = some none) (hr : Room (k + 1) X.A) (hb : Binds X.K fd ps []) (tk : Takes X W.w) (hc : X.calm = true) (hg : Gl X x) (hm : X.mg x = some (.ref C)) (ha : SA X W (e :: es) ma) (h1000 : ks.length ≤ 1000)
    (hdb : (x == ("__debug__" : Str)) = false := by decide) (he : starEach (e :: es) X.env = (false, eval e X.env) :: starEach es X.env := by rfl) (hpl : (backTo pos (starEach es X.env)).any (·.1) = false := by rfl) {pos2 : Pos} :
    SS X W (.Raise (some (.Call (.Name x p) (e :: es) [] pos)) none pos2) (sRaise x ks ma) := by
  obtain ⟨t, pt, qt⟩ := ha.ex
  refine ⟨_, ps_raise hc tk (pmk_oex T iC tI F1 hr hb .nil pass0 hg hm pt hdb he hpl), fun g hw F ρ σ H D rel z => ?_⟩
  unfold sRaise at z
  rw [RP_bnd] at z
  refine qt g hw F ρ σ H _ rel (z.imp (fun as ρ1 z1 => ?_) fun _ _ k => k)
  intro vs F1 H1 e1 rel1 ok1
  rw [RP_bnd] at z1
  obtain ⟨ds, F2, ρ2, e2, r2, h2, z2⟩ := aliL_ok rel1 ok1 z1
  rw [RP_bnd] at z2
  obtain ⟨hl, z3⟩ := RP_grd z2
  have hlv : vs.length = ks.length := by rw [← h2.length]; exact hl
  refine ⟨by rw [hlv]; exact h1000, fun a hA => ?_⟩
  refine ⟨a, C, vs ++ [], rfl, by rw [List.append_nil]; exact hlv, T, hno, upd_same, fun dx hd hne H' q1 q2 q3 => ?_⟩
  have hd1 : H1 dx = none := by rw [upd_ne hne] at hd; exact hd
  rw [List.append_nil] at q2
  refine ⟨rfl, dx, _, q1, q2, hd1, ?_⟩
  have e3 : upd (L2.del H' a) dx (.xd (List.zip ks.reverse vs.reverse)) = upd H1 dx (.xd (List.zip ks.reverse vs.reverse)) := by
    funext b
    by_cases h1 : b = dx
    · rw [h1, upd_same, upd_same]
    · rw [upd_ne h1, upd_ne h1]
      by_cases h2 : b = a
      · rw [h2, del_same, hA]
      · rw [del_ne h2, q3 b h2 h1, upd_ne h2]
  rw [e3]
  have hF := r2.ext.none hd1
  refine z3 _ _ σ _ _ ((e1.trans e2).trans (ext_upd hF)) ((r2.allocH hd1).freeze (r2.freeH0 hd1) (r2.noHeld hd1)) ⟨C, hm, rfl, dx, ks.reverse, ds.reverse, vs.reverse, rfl, rfl, by rw [List.length_reverse, List.length_reverse, hl], upd_same, h2.reverse.mono (ext_upd hF)⟩
end

/-! ### try, with clauses «except X», «except X as n» in a row -/
/-- a clause: its class, the slot of its name, what its suite does -/
abbrev Cl1 := Value × Option Nat × (Addr → Value → Option Addr → TS)
def endsOf (D : Ends) : Option Nat → Ends
  | none => D
  | some i => { nx := fun σ H => D.nx (σ.set i none) H, rt := D.rt, bk := fun σ H => D.bk (σ.set i none) H, ct := fun σ H => D.ct (σ.set i none) H }
def slotOf (σ : L2.St) (a : Addr) : Option Nat → L2.St
  | none => σ
  | some i => σ.set i (some (.ref a))
def wAny (K : PySem.W.Frag) (Wout : WX) (D : Ends) : List Cl1 → WX
  | [] => Wout
  | (c, oi, ts) :: r => fun cls d σ H => ∃ b, PySem.W.exmOne K cls c = some b ∧ (b = true → ∀ a, H a = none → ts a cls d (endsOf D oi) (slotOf σ a oi) H) ∧ (b = false → wAny K Wout D r cls d σ H)
/-- a name of a clause stands in a slot -/
def NameAt (X : Cx) : Option Str → Option Nat → Prop
  | none, none => True
  | some n, some i => X.N[i]? = some n ∧ X.env.kindOf n = some .local
  | _, _ => False
inductive Hds (X : Cx) : List ExceptHandler → List Cl1 → Prop
  | nil : Hds X [] []
  | cons {x : Str} {c : Value} {on : Option Str} {oi : Option Nat} {ts : Addr → Value → Option Addr → TS} {b₀ : Stmt} {suite : List Stmt} {np pos' : Pos} {hds : List ExceptHandler} {l : List Cl1} (hc : Names X x c) (hn : NameAt X on oi)
      (hsu : ∀ (a : Addr) (oe : Obj) (cls : Value) (d : Option Addr) (pn : List (Addr × Obj)), Zc cls d oe → (∃ vs, oe.data = .fields vs) → PSs (X.suite a ((a, oe) :: pn)) (b₀ :: suite) (ts a cls d)) (r : Hds X hds l) :
      Hds X (.ExceptHandler (some (.Name x np)) on (b₀ :: suite) pos' :: hds) ((c, oi, ts) :: l)
section
variable {X : Cx} {pins : List (Addr × Obj)} {σ : L2.St} {H : Hp} {D : Ends} {Wout : WX}
/-- the state with the exception on the ground: at a, of the class cls, its dict d -/
structure Landed (X : Cx) (pins : List (Addr × Obj)) (σ : L2.St) (H : Hp) (B : Heap) (sI s' : Shared) (a : Addr) (cls : Value) (d : Option Addr) (h3 : Heap) : Prop where
  inv : Inv X pins σ H sI
  nb : ∀ b o, sI.heap.get? b = some o → b ∉ frs X.stack → B.get? b = some o
  up : sI.heap.UpToSlots h3
  fl : HandSPX.FlyingZ B (X.env :: X.outer) a (Zc cls d) h3
  na : H a = none
  os : s'.os = sI.os
  ag : AllBare s'.gens
  nL : a ≠ X.env.locals
  nF : a ∉ X.fs
theorem Landed.here {B : Heap} {sI s' : Shared} {a : Addr} {cls : Value} {d : Option Addr} {h3 : Heap} (L : Landed X pins σ H B sI s' a cls d h3) : Inv X pins σ H { s' with heap := h3 } := L.inv.landed L.nb L.fl.1 L.up L.os L.ag
/-- no clause is left: it flies on -/
theorem Landed.on {B : Heap} {sI s' : Shared} {a : Addr} {cls : Value} {d : Option Addr} {h3 : Heap} (L : Landed X pins σ H B sI s' a cls d h3) (hs : X.stack = X.env :: X.outer) (hf : X.env.frame = some X.env.locals) (tk : Takes X Wout) (w : Wout cls d σ H) :
    wpAny (model X.prog X.w) X.A (handleBy (.ref a) X.env []) (SP X pins D) X.xe { s' with heap := h3 } := by
  refine wpAny_handleBy_nil ?_
  obtain ⟨_, _, _, oe, vs, T, oT, ts', he, _, hd, h1, _⟩ := id L.fl
  unfold PySem.passOn
  refine wpAny_bind (wpAny_field he hd h1 ?_)
  have nn : ¬ ((Value.ref T == Value.none) = true) := by simp
  rw [if_neg nn]
  have fly : wpAny (model X.prog X.w) X.A (setFlight (.ref a) X.env.frame) (fun _ s4 => wpAny (model X.prog X.w) X.A (throw (.ref a) : Sem Flow) (SP X pins D) X.xe s4) X.xe { s' with heap := h3 } := by
    rw [hf]
    refine HandSPX.setFlight_upZ L.fl fun h4 held4 up4 => wpAny_throw (tk _ _ ?_)
    have sky : Sky B X.stack a (Zc cls d) X.env.locals h4 := Or.inr (Or.inr (by rw [hs]; exact held4))
    exact ⟨a, B, sI, pins, σ, H, cls, d, rfl, L.inv, L.nb, L.up.trans up4, sky, L.na, L.os, L.ag, w⟩
  first
    | exact wpAny_bind fly
    | exact wpAny_bind (wpAny_pure (wpAny_bind fly))
/-- the clauses, one after the other -/
theorem Landed.clauses {B : Heap} {sI s' : Shared} {a : Addr} {cls : Value} {d : Option Addr} {h3 : Heap} (L : Landed X pins σ H B sI s' a cls d h3) (hs : X.stack = X.env :: X.outer) (hf : X.env.frame = some X.env.locals) (hN : X.N.Nodup) (tk : Takes X Wout) :
    ∀ {hds : List ExceptHandler} {l : List Cl1}, Hds X hds l → wAny X.K Wout D l cls d σ H → wpAny (model X.prog X.w) X.A (handleBy (.ref a) X.env hds) (SP X pins D) X.xe { s' with heap := h3 } := by
  intro hds l hk
  induction hk with
  | nil => intro w; exact L.on hs hf tk w
  | @cons x c on oi ts b₀ suite np pos' hds2 l2 hc hn hsu r ih =>
    rintro ⟨b, hb1, hyes, hno⟩
    obtain ⟨oe3, vs3, he3, hz3, hd3⟩ := L.fl.there
    have S3 := L.here.suite he3 hd3 L.na L.nL L.nF
    refine wpAny_handleBy_cons (codeAny_handlers_test ?_) (fun q => by cases q)
    have looksT : PySem.W.Looks (model X.prog X.w) h3 (typeOf (.ref a)) cls := fun A Q E s k q => wpAny_typeOf_ref (k _ _ he3) (by rw [hz3.1]; exact q)
    have looksM := PySem.W.exm_one (M := model X.prog X.w) L.here.kIn looksT hb1
    have named : ∀ {Q : Value → Shared → Prop} {E : Value → Shared → Prop}, Q c { s' with heap := h3 } → wpAny (model X.prog X.w) (X.A.mark (some (.ref a))) (eval (.Name x np) X.env) Q E { s' with heap := h3 } := by
      intro Q E q
      obtain ⟨hg, hdb, hm | ⟨hm, hv, hnn⟩⟩ := hc
      · exact ld_glob (X := X.suite a ((a, oe3) :: (X.pn ++ pins))) S3 hg hm q hdb
      · exact ld_blt (X := X.suite a ((a, oe3) :: (X.pn ++ pins))) S3 hg hm hv q hnn hdb
    refine named (looksM.here ?_)
    cases b with
    | false => exact ih (hno rfl)
    | true =>
      cases on with
      | none =>
        cases oi with
        | some i => exact hn.elim
        | none =>
          refine codeAny_handlers_suite (HandSPX.lands_againZ L.fl fun h4 fl4 up4 => ?_)
          have J4 : Inv X pins σ H { s' with heap := h4 } := L.inv.landed L.nb fl4.1 (L.up.trans up4) L.os L.ag
          obtain ⟨oe4, vs4, he4, hz4, hd4⟩ := fl4.there
          have S4 := J4.suite he4 hd4 L.na L.nL L.nF
          refine wpAny_mono ((hsu a oe4 cls d (X.pn ++ pins) hz4 ⟨vs4, hd4⟩).run [] _ _ H _ S4 (hyes rfl a L.na)) ?_ (fun _ _ z => z.elim)
          intro f s6 hsp
          cases f
          case ret u =>
            obtain ⟨v6, σ6, H6, S6, r6, q6⟩ := hsp
            exact ⟨v6, σ6, H6, S6.unsuite L.inv.ok, r6, q6⟩
          all_goals
            obtain ⟨σ6, H6, S6, q6⟩ := hsp
            exact ⟨σ6, H6, S6.unsuite L.inv.ok, q6⟩
      | some n =>
        cases oi with
        | none => exact hn.elim
        | some i =>
          obtain ⟨hi, hln⟩ := hn
          refine codeAny_handlers_suite_as (HandSPX.lands_againZ L.fl fun h4 fl4 up4 => ?_)
          have J4 : Inv X pins σ H { s' with heap := h4 } := L.inv.landed L.nb fl4.1 (L.up.trans up4) L.os L.ag
          obtain ⟨oe4, vs4, he4, hz4, hd4⟩ := fl4.there
          have S4 := J4.suite he4 hd4 L.na L.nL L.nF
          refine store_ok (X := X.suite a ((a, oe4) :: (X.pn ++ pins))) (v := .ref a) S4 hN hi (Or.inl hln) rfl (fun s5 S5 => ?_) (Or.inr hln)
          refine wpAny_mono ((hsu a oe4 cls d (X.pn ++ pins) hz4 ⟨vs4, hd4⟩).run [] s5 _ H _ S5 (hyes rfl a L.na)) ?_ (fun _ _ z => z.elim)
          intro f s6 hsp
          have goes : ∀ {σ6 : L2.St} {H6 : Hp} {Q : Shared → Prop}, Inv (X.suite a ((a, oe4) :: (X.pn ++ pins))) [] σ6 H6 s6 → (∀ s7, Inv X pins (σ6.set i none) H6 s7 → Q s7) →
              wpAny (model X.prog X.w) X.A (do bindName X.env n .none; unbindBehindTheSuite X.env n pos') (fun _ s7 => Q s7) X.xe s6 := by
            intro σ6 H6 Q S6 hq
            exact gone_ok (S6.unsuite L.inv.ok) hN hi hln hq
          cases f
          case ret u =>
            obtain ⟨v6, σ6, H6, S6, r6, q6⟩ := hsp
            exact goes S6 fun s7 J7 => ⟨v6, _, _, J7, r6, q6⟩
          all_goals
            obtain ⟨σ6, H6, S6, q6⟩ := hsp
            exact goes S6 fun s7 J7 => ⟨_, _, J7, q6⟩
end
section
variable {X : Cx} {body : List Stmt} {h₀ : ExceptHandler} {hds : List ExceptHandler} {l : List Cl1} {pos : Pos} {tb : WX → TS} {Wout : WX}
theorem ps_tryA (hs : X.stack = X.env :: X.outer) (hf : X.env.frame = some X.env.locals) (hN : X.N.Nodup) (tk : Takes X Wout)
    (hb : ∀ (W : WX) (pn : List (Addr × Obj)) (xe : Value → Shared → Prop), Takes (X.tr pn xe) W → PassesOwn (model X.prog X.w) X.A X.env xe → PSs (X.tr pn xe) body (tb W))
    (hh : Hds X (h₀ :: hds) l) : PS X (.Try body (h₀ :: hds) [] [] pos) (fun D σ H => tb (wAny X.K Wout D l) D σ H) := by
  refine ⟨fun pins s σ H D I h => wpAny_Try_except ?_⟩
  have ok := I.ok
  have frames : X.A.frames = some (X.env :: X.outer) := by rw [ok.frames, hs]
  refine wpAny_mono ((hb (wAny X.K Wout D l) (X.pn ++ pins) (fun e s₁ => wpAny (model X.prog X.w) X.A (noteFrame e X.env) (fun _ s₂ => wpAny (model X.prog X.w) X.A (setFlight e none)
    (fun _ s₃ => wpAny (model X.prog X.w) X.A (handleBy e X.env (h₀ :: hds)) (SP X pins D) X.xe s₃) X.xe s₂) X.xe s₁) ?_ PassesOwn.looking).run [] s σ H D (I.toTry _) h) ?_ (fun e s1 he => he)
  · rintro u s' ⟨a, B, sI, pins', σ', H', cls, d, rfl, J', nb, up, sky, na, os, ag, w⟩
    show wpAny (model X.prog X.w) X.A (noteFrame (.ref a) X.env) _ _ _
    have sky' : Sky B (X.env :: X.outer) a (Zc cls d) X.env.locals s'.heap := by rw [← hs]; exact sky
    refine Sky.land Zc.steady frames hf sky' fun h3 fl3 up3 => ?_
    obtain ⟨oe3, vs3, he3, hz3, hd3⟩ := fl3.there
    have nfr : a ∉ frs (X.env :: X.outer) := by
      intro hm
      obtain ⟨_, o', e', hnf⟩ := fl3.2.2.1.mem hm
      rw [he3] at e'; cases e'
      exact hnf _ hd3
    have L : Landed X pins σ' H' B sI s' a cls d h3 :=
      { inv := J'.ofTry ok, nb := nb, up := up.trans up3, fl := fl3, na := na, os := os, ag := ag
        nL := fun z => nfr (List.mem_filterMap.mpr ⟨X.env, List.mem_cons_self, by rw [hf, z]⟩)
        nF := fun hm => by
          obtain ⟨e, he, q⟩ := List.mem_filterMap.mp hm
          exact nfr (List.mem_filterMap.mpr ⟨e, List.mem_cons_of_mem _ he, q⟩) }
    exact L.clauses hs hf hN tk hh w
  · intro f s1 hsp
    cases f
    case next =>
      obtain ⟨σ', H', J', q⟩ := hsp
      exact wpAny_execs_nil ⟨σ', H', J'.ofTry ok, q⟩
    case ret u =>
      obtain ⟨v, σ', H', J', r, q⟩ := hsp
      exact ⟨v, σ', H', J'.ofTry ok, r, q⟩
    all_goals
      obtain ⟨σ', H', J', q⟩ := hsp
      exact ⟨σ', H', J'.ofTry ok, q⟩
end

/-! ### what a try does -/
def isExn : Sl → Bool
  | .exn => true
  | _ => false
def noExn : M Unit := fun ρ => if ρ.any isExn = true then .bad else .ok () ρ
def bindX : Option Nat → M Unit
  | none => noExn
  | some i => fun ρ => if ρ.any isExn = true ∨ isIo (ρ[i]? : Option Sl) = true ∨ ρ.length ≤ i then .bad else .ok () (ρ.set i .exn)
def unbindX : Option Nat → M Unit
  | none => noExn
  | some i => fun ρ => if (ρ.set i .no).any isExn = true ∨ isIo (ρ[i]? : Option Sl) = true then .bad else .ok () (ρ.set i .no)
def okRt : Option Nat → Fl → Bool
  | some i, .rt (.bor j) => decide (i ≠ j)
  | _, _ => true
def tryH (isa : Str → Str → Option Bool) : List (Str × Option Nat × (Er → M Fl)) → Er → M Fl
  | [], er => M.thr er
  | (nm, oi, m) :: r, er => do
    let b ← M.opt (isa er.name nm)
    if b = true then do
      bindX oi
      let f ← noX (m er)
      M.grd (okRt oi f = true)
      unbindX oi
      pure f
    else tryH isa r er
def sTry (isa : Str → Str → Option Bool) (hs : List (Str × Option Nat × (Er → M Fl))) (mb : M Fl) : M Fl := fun ρ => match mb ρ with
  | .ok f ρ' => .ok f ρ'
  | .exc er ρ' => tryH isa hs er ρ'
  | .bad => .bad
theorem noExn_at {ρ : VE} (h : ¬ ρ.any isExn = true) {i : Nat} : ρ[i]? ≠ some Sl.exn := fun e => h (by
  rw [List.any_eq_true]
  exact ⟨_, List.mem_of_getElem? e, rfl⟩)
theorem noExn_ok {ρ : VE} {ok : Unit → VE → Prop} {ex : Er → VE → Prop} (h : RP (noExn ρ) ok ex) : ¬ ρ.any isExn = true ∧ ok () ρ := by
  unfold noExn at h
  split at h
  · exact h.elim
  · rename_i c; exact ⟨c, h⟩
theorem bindX_ok {i : Nat} {ρ : VE} {ok : Unit → VE → Prop} {ex : Er → VE → Prop} (h : RP (bindX (some i) ρ) ok ex) : ¬ (ρ.any isExn = true ∨ isIo (ρ[i]? : Option Sl) = true ∨ ρ.length ≤ i) ∧ ok () (ρ.set i .exn) := by
  unfold bindX at h
  dsimp only at h
  split at h
  · exact h.elim
  · rename_i c; exact ⟨c, h⟩
theorem unbindX_ok {i : Nat} {ρ : VE} {ok : Unit → VE → Prop} {ex : Er → VE → Prop} (h : RP (unbindX (some i) ρ) ok ex) : ¬ ((ρ.set i .no).any isExn = true ∨ isIo (ρ[i]? : Option Sl) = true) ∧ ok () (ρ.set i .no) := by
  unfold unbindX at h
  dsimp only at h
  split at h
  · exact h.elim
  · rename_i c; exact ⟨c, h⟩
section
variable {K : PySem.W.Frag} {g : Gx} {F F1 H : Hp} {ρ : VE} {σ : L2.St} {e : Option Addr}
theorem SlOk.exa {g' : Gx} {i : Nat} {s : Sl} {x : Option V} {R : List Addr} (h1 : g'.ios = g.ios) (h2 : g'.H0 = g.H0) (hs : s ≠ .exn) (h : SlOk K g F H i s x R) : SlOk K g' F H i s x R := by
  cases s with
  | no => exact h
  | val d => exact h
  | exn => exact absurd rfl hs
  | mu b d => unfold SlOk at h ⊢; rw [h1, h2]; exact h
  | ot t => unfold SlOk at h ⊢; rw [h2]; exact h
theorem Own.exa {g' : Gx} {Rs : List (List Addr)} (h1 : g'.ios = g.ios) (h2 : g'.H0 = g.H0) (h3 : g'.held = g.held) (hne : ¬ ρ.any isExn = true) (w : Own K g F H ρ σ Rs) : Own K g' F H ρ σ Rs where
  len := w.len
  lenR := w.lenR
  ok := fun i s x R k1 k2 k3 => (w.ok i s x R k1 k2 k3).exa h1 h2 fun z => noExn_at hne (i := i) (by rw [k1, z])
  nd := w.nd
  dis := w.dis
  out := fun i R hR a ha => by rw [h3, h2, h1]; exact w.out i R hR a ha
  hel := fun b o q => w.hel b o (by rw [← h3]; exact q)
theorem Rel.inX (r : Rel K g F ρ σ H) (hne : ¬ ρ.any isExn = true) : Rel K { g with F0 := F, exa := e } F ρ σ H where
  ext := r.ext
  f0 := Ext.refl F
  new := fun b h => .inl h
  keep := r.keep
  dom := r.dom
  io := r.io
  own := let ⟨Rs, w⟩ := r.own; ⟨Rs, Own.exa (g := g) rfl rfl rfl hne w⟩
theorem Rel.outX (r : Rel K { g with F0 := F1, exa := e } F ρ σ H) (h1 : Ext g.F0 F1) (h2 : ∀ b, F1 b ≠ none → g.F0 b ≠ none ∨ g.H0 b = none) (hne : ¬ ρ.any isExn = true) : Rel K g F ρ σ H where
  ext := r.ext
  f0 := h1.trans r.f0
  new := fun b h => (r.new b h).elim (fun k => h2 b k) .inr
  keep := r.keep
  dom := r.dom
  io := r.io
  own := let ⟨Rs, w⟩ := r.own; ⟨Rs, Own.exa (g := { g with F0 := F1, exa := e }) rfl rfl rfl hne w⟩
theorem RvOk.outX {rv : RV} {v : V} (h1 : Ext g.F0 F1) (h2 : ∀ b, F1 b ≠ none → g.F0 b ≠ none ∨ g.H0 b = none) (hne : ¬ ρ.any isExn = true) (h : RvOk K { g with F0 := F1, exa := e } F ρ σ H rv v) : RvOk K g F ρ σ H rv v := by
  cases rv with
  | d d => exact h
  | bor i => exact h
  | fr d =>
    obtain ⟨p, o, a1, a2, a3, a4, r⟩ := h
    exact ⟨p, o, a1, a2, a3, a4, Rel.outX (g := g.hold (one p o)) r h1 h2 hne⟩
  | ow t =>
    obtain ⟨R, a1, a2, a3, r⟩ := h
    exact ⟨R, a1, a2, a3, Rel.outX (g := g.hold (cells R H)) r h1 h2 hne⟩
theorem RvOk.setNo {rv : RV} {v : V} {i : Nat} {x : Option V} (hn : ∀ e, ρ[i]? ≠ some (Sl.mu true e)) (hi : rv ≠ .bor i) (h : RvOk K g F ρ σ H rv v) : RvOk K g F (ρ.set i .no) (σ.set i x) H rv v := by
  cases rv with
  | d d => exact h
  | bor j =>
    show (σ.set i x)[j]? = some (some v)
    rw [List.getElem?_set_ne (fun z => hi (by rw [z]))]; exact h
  | fr d =>
    obtain ⟨p, o, a1, a2, a3, a4, r⟩ := h
    exact ⟨p, o, a1, a2, a3, a4, r.setNo hn⟩
  | ow t =>
    obtain ⟨R, a1, a2, a3, r⟩ := h
    exact ⟨R, a1, a2, a3, r.setNo hn⟩
end
/-- the wish within a suite -/
def WS (X : Cx) (a : Addr) (er : Er) (cls : Value) (d : Option Addr) : Wh := ⟨fun _ _ _ _ => False, fun g => g.exa = some a ∧ ErOk X.K X.mg g.F0 er cls d⟩
/-- a suite, for every exception -/
def SU (X : Cx) (suite : List Stmt) (m : Er → M Fl) : Prop := ∀ (a : Addr) (oe : Obj) (cls : Value) (d : Option Addr) (pn : List (Addr × Obj)) (er : Er), Zc cls d oe → (∃ vs, oe.data = .fields vs) → SSs (X.suite a ((a, oe) :: pn)) (WS X a er cls d) suite (m er)
def tsOf (X : Cx) (m : Er → M Fl) (a : Addr) (cls : Value) (d : Option Addr) : TS := fun D σ H => ∃ er g F ρ, (WS X a er cls d).p g ∧ Rel X.K g F ρ σ H ∧ RP (m er ρ) (okS X g F D) (fun _ _ => False)
theorem SU.can {X : Cx} {suite : List Stmt} {m : Er → M Fl} (h : SU X suite m) (a : Addr) (oe : Obj) (cls : Value) (d : Option Addr) (pn : List (Addr × Obj)) (hz : Zc cls d oe) (hf : ∃ vs, oe.data = .fields vs) : PSs (X.suite a ((a, oe) :: pn)) suite (tsOf X m a cls d) := by
  refine ⟨fun pins s σ H D I ⟨er, g, F, ρ, hg, r, z⟩ => ?_⟩
  obtain ⟨t, pt, qt⟩ := (h a oe cls d pn er hz hf).ex
  exact pt.run pins s σ H D I (qt g hg F ρ σ H D r (z.imp (fun _ _ k => k) fun _ _ k => k.elim))
inductive HsOk (X : Cx) (isa : Str → Str → Option Bool) : List ExceptHandler → List (Str × Option Nat × (Er → M Fl)) → Prop
  | nil : HsOk X isa [] []
  | cons {x nm : Str} {c : Value} {on : Option Str} {oi : Option Nat} {m : Er → M Fl} {b₀ : Stmt} {suite : List Stmt} {np pos' : Pos} {hds : List ExceptHandler} {l : List (Str × Option Nat × (Er → M Fl))} (hc : Names X x c) (hn : NameAt X on oi)
      (hi : ∀ n C b, X.mg n = some (.ref C) → isa n nm = some b → PySem.W.exmOne X.K (.ref C) c = some b) (hsu : SU X (b₀ :: suite) m) (r : HsOk X isa hds l) :
      HsOk X isa (.ExceptHandler (some (.Name x np)) on (b₀ :: suite) pos' :: hds) ((nm, oi, m) :: l)
/-- the clauses as ps_tryA wants them -/
theorem HsOk.hds {X : Cx} {isa : Str → Str → Option Bool} {hds : List ExceptHandler} {l : List (Str × Option Nat × (Er → M Fl))} (h : HsOk X isa hds l) : ∃ l', Hds X hds l' ∧ ∀ (W : Wh) (D : Ends) (er : Er) (cls : Value) (d : Option Addr) (g : Gx) (F F' : Hp) (ρ : VE) (σ : L2.St) (H : Hp),
    Ext F F' → Rel X.K g F' ρ σ H → ErOk X.K X.mg F' er cls d → RP (tryH isa l er ρ) (okS X g F D) (exE X g F W) → wAny X.K W.w D l' cls d σ H := by
  induction h with
  | nil => exact ⟨[], .nil, fun W D er cls d g F F' ρ σ H e r ek z => z cls d σ F' H e r ek⟩
  | @cons x nm c on oi m b₀ suite np pos' hds l hc hn hi hsu _ ih =>
    obtain ⟨l', h1, h2⟩ := ih
    refine ⟨(c, oi, tsOf X m) :: l', .cons hc hn (fun a oe cls d pn hz hf => hsu.can a oe cls d pn hz hf) h1, ?_⟩
    intro W D er cls d g F F' ρ σ H e r ek z
    unfold tryH at z
    rw [RP_bnd] at z
    obtain ⟨b, hb, z⟩ := RP_opt z
    obtain ⟨C, hC, hcls, _⟩ := id ek
    refine ⟨b, by rw [hcls]; exact hi _ C b hC hb, fun hbt a ha => ?_, fun hbf => ?_⟩
    · subst hbt
      simp only [if_pos] at z
      rw [RP_bnd] at z
      cases oi with
      | none =>
        obtain ⟨hne, z2⟩ := noExn_ok (show RP (noExn ρ) _ _ from z)
        have r' : Rel X.K { g with F0 := F', exa := some a } F' ρ σ H := r.inX hne
        rw [RP_bnd] at z2
        refine ⟨er, _, F', ρ, ⟨rfl, ek⟩, r', (RP_noX z2).imp (fun f ρ2 z3 => ?_) fun _ _ k => k⟩
        intro σ2 F2 H2 e2 r2
        rw [RP_bnd] at z3
        obtain ⟨_, z3⟩ := RP_grd z3
        rw [RP_bnd] at z3
        obtain ⟨hne2, z4⟩ := noExn_ok (show RP (noExn ρ2) _ _ from z3)
        have r3 : Rel X.K g F2 ρ2 σ2 H2 := Rel.outX r2 r.f0 r.new hne2
        have z4' : okS X g F D f ρ2 := z4
        have z5 := z4' σ2 F2 H2 (e.trans e2) r3
        cases f with
        | nx => exact z5
        | bk => exact z5
        | ct => exact z5
        | rt rv => exact fun v hv => z5 v (RvOk.outX r.f0 r.new hne2 hv)
      | some i =>
        obtain ⟨hcond, z2⟩ := bindX_ok z
        have hne : ¬ ρ.any isExn = true := fun q => hcond (.inl q)
        have hio : ¬ isIo (ρ[i]? : Option Sl) = true := fun q => hcond (.inr (.inl q))
        have hio' : ∀ f, ρ[i]? ≠ some (Sl.mu true f) := fun f q => hio (by rw [q]; rfl)
        have r' : Rel X.K { g with F0 := F', exa := some a } F' (ρ.set i Sl.exn) (σ.set i (some (V.ref a))) H := (r.inX hne).setExn rfl hio'
        rw [RP_bnd] at z2
        refine ⟨er, _, F', ρ.set i Sl.exn, ⟨rfl, ek⟩, r', (RP_noX z2).imp (fun f ρ2 z3 => ?_) fun _ _ k => k⟩
        intro σ2 F2 H2 e2 r2
        rw [RP_bnd] at z3
        obtain ⟨hrt, z3⟩ := RP_grd z3
        rw [RP_bnd] at z3
        obtain ⟨hcond2, z3⟩ := unbindX_ok z3
        have hne2 : ¬ (ρ2.set i .no).any isExn = true := fun q => hcond2 (.inl q)
        have hio2 : ∀ f, ρ2[i]? ≠ some (Sl.mu true f) := fun f q => hcond2 (.inr (by rw [q]; rfl))
        have r3 : Rel X.K g F2 (ρ2.set i Sl.no) (σ2.set i none) H2 := Rel.outX (r2.setNo hio2) r.f0 r.new hne2
        have z4 : okS X g F D f (ρ2.set i Sl.no) := z3
        have z5 := z4 (σ2.set i none) F2 H2 (e.trans e2) r3
        cases f with
        | nx => exact z5
        | bk => exact z5
        | ct => exact z5
        | rt rv =>
          refine fun v hv => z5 v (RvOk.outX r.f0 r.new hne2 (RvOk.setNo hio2 (fun q => ?_) hv))
          subst q
          simp [okRt] at hrt
    · subst hbf
      simp only [Bool.false_eq_true, if_false] at z
      exact h2 W D er cls d g F F' ρ σ H e r ek z
end P0
end
section
set_option Elab.async false
set_option linter.all false
set_option maxRecDepth 100000
set_option maxHeartbeats 4000000
/-! P0, exceptions: the try statement; a field of the caught one; isinstance. -/
namespace P0
open PySem PySem.Spec L2
open PyProof.Rows hiding St

section
variable {X : Cx} {W : Wh} {e : Expr} {es : List Expr} {pos p : Pos} {x : Str} {body : List Stmt} {h₀ : ExceptHandler} {hds : List ExceptHandler}
theorem st_try {isa : Str → Str → Option Bool} {l : List (Str × Option Nat × (Er → M Fl))} {mb : M Fl} (hs : X.stack = X.env :: X.outer) (hf : X.env.frame = some X.env.locals) (hN : X.N.Nodup) (tk : Takes X W.w)
    (hb : ∀ (w : WX) (pn : List (Addr × Obj)) (xe : Value → Shared → Prop), Takes (X.tr pn xe) w → PassesOwn (model X.prog X.w) X.A X.env xe → SSs (X.tr pn xe) ⟨w, W.p⟩ body mb) (hh : HsOk X isa (h₀ :: hds) l) :
    SS X W (.Try body (h₀ :: hds) [] [] pos) (sTry isa l mb) := by
  obtain ⟨l', h1, h2⟩ := hh.hds
  refine ⟨_, ps_tryA (tb := fun w D σ H => ∃ g F ρ, W.p g ∧ Rel X.K g F ρ σ H ∧ RP (mb ρ) (okS X g F D) (exE X g F ⟨w, W.p⟩)) hs hf hN tk (fun w pn xe tk' po => ⟨fun pins s σ H D I ⟨g, F, ρ, hg, r, z⟩ => ?_⟩) h1, fun g hw F ρ σ H D rel z => ?_⟩
  · obtain ⟨t, pt, qt⟩ := (hb w pn xe tk' po).ex
    exact pt.run pins s σ H D I (qt g hg F ρ σ H D r z)
  · refine ⟨g, F, ρ, hw, rel, ?_⟩
    unfold sTry at z
    cases q : mb ρ with
    | ok f ρ' => rw [q] at z; exact z
    | bad => rw [q] at z; exact z
    | exc er ρ' =>
      rw [q] at z
      intro cls d σ' F' H' e1 r1 ek
      exact h2 W D er cls d g F F' ρ' σ' H' e1 r1 ek z
end

/-! ### the own exception classes -/
structure ExT (K : PySem.W.Frag) (mg : Str → Option Value) (cls : List Str) (prs : List (Str × Str × Bool)) (flds : List (Str × Str)) : Prop where
  c : ∀ n ∈ cls, ∃ C, mg n = some (.ref C) ∧ ExcC K C ∧ PySem.W.typeIn K (.ref C) = some (.type "type") ∧ PySem.W.subIn K (.ref C) (.ref C) = some true
  p : ∀ q ∈ prs, ∀ C D, mg q.1 = some (.ref C) → mg q.2.1 = some (.ref D) → PySem.W.subIn K (.ref C) (.ref D) = some q.2.2
  f : ∀ q ∈ flds, ∀ C, mg q.1 = some (.ref C) → PySem.W.findIn K (.ref C) q.2 = some none
def isaT (cls : List Str) (prs : List (Str × Str × Bool)) (n m : Str) : Option Bool := if n ∈ cls ∧ m ∈ cls then (prs.find? fun q => decide (q.1 = n) && decide (q.2.1 = m)).map (·.2.2) else none
section
variable {K : PySem.W.Frag} {mg : Str → Option Value} {cls : List Str} {prs : List (Str × Str × Bool)} {flds : List (Str × Str)}
theorem ExT.own (T : ExT K mg cls prs flds) {n : Str} {C : Addr} (hn : n ∈ cls) (hm : mg n = some (.ref C)) : ExcC K C ∧ PySem.W.typeIn K (.ref C) = some (.type "type") ∧ PySem.W.subIn K (.ref C) (.ref C) = some true := by
  obtain ⟨D, h1, h2⟩ := T.c n hn
  rw [hm] at h1; cases h1
  exact h2
theorem ExT.sub (T : ExT K mg cls prs flds) {n m : Str} {C D : Addr} {b : Bool} (hn : mg n = some (.ref C)) (hm : mg m = some (.ref D)) (h : isaT cls prs n m = some b) : n ∈ cls ∧ m ∈ cls ∧ PySem.W.subIn K (.ref C) (.ref D) = some b := by
  unfold isaT at h
  split at h
  · rename_i hc
    refine ⟨hc.1, hc.2, ?_⟩
    cases q : prs.find? fun q => decide (q.1 = n) && decide (q.2.1 = m) with
    | none => rw [q] at h; cases h
    | some y =>
      rw [q] at h
      have hb : y.2.2 = b := Option.some.inj h
      have h1 := List.find?_some q
      rw [Bool.and_eq_true, decide_eq_true_eq, decide_eq_true_eq] at h1
      have := T.p y (List.mem_of_find?_eq_some q) C D (by rw [h1.1]; exact hn) (by rw [h1.2]; exact hm)
      rw [hb] at this
      exact this
  · cases h
theorem ExT.exm (T : ExT K mg cls prs flds) {n m : Str} {C D : Addr} {b : Bool} (hn : mg n = some (.ref C)) (hm : mg m = some (.ref D)) (h : isaT cls prs n m = some b) : PySem.W.exmOne K (.ref C) (.ref D) = some b := by
  obtain ⟨_, h2, h3⟩ := T.sub hn hm h
  obtain ⟨hD, tD, _⟩ := T.own h2 hm
  exact PySem.W.exm_ref hD.hs hD.hd tD h3
theorem ExT.kit (T : ExT K mg cls prs flds) {n m : Str} {C D : Addr} {b : Bool} (hn : mg n = some (.ref C)) (hm : mg m = some (.ref D)) (h : isaT cls prs n m = some b) : PySem.W.kitCls K (.ref C) (.ref D) = some b := by
  obtain ⟨_, h2, h3⟩ := T.sub hn hm h
  obtain ⟨hD, tD, _⟩ := T.own h2 hm
  obtain ⟨cd, hc, _⟩ := PySem.W.any_some hD.hd
  show (if ((PySem.W.clsIn K D).isSome && PySem.W.typeIn K (.ref D) == some (.type "type")) = true then PySem.W.subIn K (.ref C) (.ref D) else none) = some b
  rw [hc, tD]
  simpa using h3
theorem excXf {C : Addr} (h : ExcC K C) : XfC K C := ⟨h.hg, h.hk, h.hs, h.hd⟩
end

/-! ### e.f in a suite -/
theorem pe_never {X : Cx} {e : Expr} : PE X e (fun _ _ _ => False) := ⟨fun _ _ _ _ _ _ h => h.elim⟩
def eXf (cls : List Str) (flds : List (Str × Str)) (er : Er) (i : Nat) (n : Str) : M RV := fun ρ => match (ρ[i]? : Option Sl) with
  | some .exn => match er.fs with
    | some fs => match fs.lookup n with
      | some d => if er.name ∈ cls ∧ (er.name, n) ∈ flds then .ok (.d d) ρ else .bad
      | none => .bad
    | none => .bad
  | _ => .bad
theorem lookup_zip {K : PySem.W.Frag} {F : Hp} {n : Str} : ∀ {ks : List Str} {xs : List Dv} {vs : List V} {d : Dv}, Reps K F xs vs → List.lookup n (List.zip ks xs) = some d → ∃ v, List.lookup n (List.zip ks vs) = some v ∧ Rep K F d v
  | [], _, _, _, _, h => by simp at h
  | _ :: _, _, _, _, .nil, h => by simp at h
  | k :: ks, _, _, d, .cons r t, h => by
    rw [List.zip_cons_cons, List.lookup_cons] at h
    rw [List.zip_cons_cons, List.lookup_cons]
    cases q : (n == k) with
    | true => rw [q] at h; cases h; exact ⟨_, rfl, r⟩
    | false => rw [q] at h; exact lookup_zip t h
section
variable {X : Cx} {a : Addr} {oe : Obj} {cls : Value} {d : Option Addr} {pn : List (Addr × Obj)} {er : Er} {pos p : Pos} {x n : Str} {cl : List Str} {prs : List (Str × Str × Bool)} {flds : List (Str × Str)}
theorem se_xf (i : Nat) (T : ExT X.K X.mg cl prs flds) (hz : Zc cls d oe) (hf : ∃ vs, oe.data = .fields vs) (hN : X.N[i]? = some x := by rfl) (hv : Vis X.env.scope x := by first | exact Or.inl rfl | exact Or.inr (Or.inl rfl) | exact Or.inr (Or.inr rfl)) (hdb : (x == ("__debug__" : Str)) = false := by decide)
    (hcd : (x == ("__classdict__" : Str)) = false := by decide) (hb : attributeBase (.Name x p) n X.env (eval (.Name x p) X.env) = eval (.Name x p) X.env := by rfl) :
    SE (X.suite a ((a, oe) :: pn)) (WS X a er cls d) (.Attribute (.Name x p) n pos) (eXf cl flds er i n) := by
  by_cases hC : ∃ C, cls = .ref C ∧ XfC X.K C ∧ PySem.W.findIn X.K (.ref C) n = some none
  · obtain ⟨C, rfl, hC, hno⟩ := hC
    refine ⟨_, pe_xf (X := X) (te := tVar i) hC hno hz hf (pe_var hN hv hdb hcd) hb, fun g hw F ρ σ H Q rel z => ?_⟩
    obtain ⟨hex, C', hC', hcls, hd⟩ := hw
    obtain rfl := Value.ref.inj hcls
    unfold eXf at z
    split at z
    case h_1 hρ =>
      obtain ⟨a', h1, h2⟩ := rel.exs i hρ
      rw [hex] at h1; cases h1
      refine ⟨_, h2, rfl, rfl, ?_⟩
      cases hfs : er.fs with
      | none => rw [hfs] at z; exact z.elim
      | some fs =>
        rw [hfs] at z hd
        obtain ⟨dd, ks, xs, vs, rfl, rfl, hl, h3, h4⟩ := hd
        cases hlk : List.lookup n (List.zip ks xs) with
        | none => simp only [hlk] at z; exact z.elim
        | some dv =>
          simp only [hlk] at z
          split at z
          · obtain ⟨v, h5, h6⟩ := lookup_zip h4 hlk
            exact ⟨dd, _, v, rfl, rel.ext _ _ (rel.f0 _ _ h3), h5, z v F H (Ext.refl F) rel (h6.mono rel.f0)⟩
          · exact z.elim
    case h_2 => exact z.elim
  · refine ⟨_, pe_never, fun g hw F ρ σ H Q rel z => hC ?_⟩
    obtain ⟨hex, C', hC', hcls, hd⟩ := hw
    unfold eXf at z
    split at z
    case h_1 hρ =>
      cases hfs : er.fs with
      | none => rw [hfs] at z; exact z.elim
      | some fs =>
        rw [hfs] at z
        cases hlk : List.lookup n fs with
        | none => simp only [hlk] at z; exact z.elim
        | some dv =>
          simp only [hlk] at z
          split at z
          · rename_i hc
            exact ⟨C', hcls, excXf (T.own hc.1 hC').1, T.f _ hc.2 C' hC'⟩
          · exact z.elim
    case h_2 => exact z.elim

/-! ### isinstance(e, (A, B, ..)) and isinstance(e, A) in a suite -/
def isaL (cl : List Str) (prs : List (Str × Str × Bool)) (n : Str) : List Str → Option Bool
  | [] => some false
  | m :: ms => match isaT cl prs n m with
    | some true => some true
    | some false => isaL cl prs n ms
    | none => none
def eIsL (cl : List Str) (prs : List (Str × Str × Bool)) (er : Er) (i : Nat) (ns : List Str) : M RV := fun ρ => match (ρ[i]? : Option Sl) with
  | some .exn => match isaL cl prs er.name ns with
    | some b => if er.name ∈ cl then .ok (.d (.bl b)) ρ else .bad
    | none => .bad
  | _ => .bad
def dOk (H : Hp) (d : Option Addr) : Prop := d = none ∨ ∃ dd fs, d = some dd ∧ H dd = some (.xd fs)
theorem kit_exn {K : PySem.W.Frag} {C : Addr} (hc : ExcC K C) {a : Addr} {oe : Obj} {od : Option Obj} : PySem.W.KitX K (.ref a) (.ref C) (fun h => PySem.W.InstAt h a oe C od) := by
  obtain ⟨cd, hcd, _⟩ := PySem.W.any_some hc.hd
  exact PySem.W.kitx_exc (by rw [hcd]; rfl) hc.hg hc.hk hc.hs hc.ha hc.hn hc.ht hc.hm
theorem inst_exn {P : Program} {w : World} {H : Hp} {s : Shared} {C : Addr} (hz : Zc (.ref C) d oe) (hf : ∃ vs, oe.data = .fields vs) (ha : s.heap.get? a = some oe) (hok : HOk P w H s.heap) (hd : dOk H d) : ∃ od, PySem.W.InstAt s.heap a oe C od := by
  obtain ⟨oc, odt, oda, osl⟩ := oe
  obtain ⟨h1, h2⟩ := hz
  obtain ⟨vs, hv⟩ := hf
  dsimp only at h1 h2 hv
  subst h1 h2 hv
  rcases hd with rfl | ⟨dd, fs, rfl, h⟩
  · exact ⟨none, ha, rfl, rfl, trivial⟩
  · have hx : ObjOk P w H s.heap dd (.xd fs) := hok dd _ h
    obtain ⟨mA, hns, hr⟩ := hx
    obtain ⟨od, ho, hl⟩ := lookIn_ns hns
    exact ⟨some od, ha, rfl, rfl, ho⟩
def rIsL (K : PySem.W.Frag) (C a : Addr) (d : Option Addr) : List V → Hp → VK → Prop := fun xs H Q => ∃ (tp : Addr) (cs : List V) (us : List Value) (b : Bool), xs = [.ref a, .ref tp] ∧ H tp = some (.tup cs) ∧ Paired ClsV cs us ∧ PySem.W.kitAny K (.ref C) us = some b ∧ dOk H d ∧ Q (.bl b) H
theorem call_isL {C : Addr} (hc : ExcC X.K C) (hz : Zc (.ref C) d oe) (hf : ∃ vs, oe.data = .fields vs) : CallR (X.suite a ((a, oe) :: pn)) (.builtin "isinstance") (rIsL X.K C a d) := by
  intro pins s σ H xs us Q I r h
  obtain ⟨tp, cs, ws, b, rfl, hT, k, e, hd, q⟩ := h
  obtain ⟨u1, u2, rfl, r1, r2⟩ := vals2 r
  cases (show u2 = Value.ref tp from r2)
  cases (show u1 = Value.ref a from r1)
  obtain ⟨hget, _⟩ := I.pin (a, oe) (List.mem_append.mpr (.inl List.mem_cons_self))
  obtain ⟨od, J⟩ := inst_exn hz hf hget I.hok hd
  obtain ⟨_, its, rv, o, h1, h2, n, h3⟩ := (show ObjOk X.prog X.w H s.heap tp (.tup cs) from I.hok tp _ hT)
  have e3 := ClsV.all k rv
  subst e3
  obtain ⟨oc, od', dt, sl⟩ := o
  simp only at h2 h3
  subst h2 h3
  exact PySem.W.kia_tup (kit_exn hc) I.kIn J h1 e (fun z => nomatch z) fun tk => ⟨.bl b, H, I.tok tk, rfl, q⟩
end
/-- the names of a tuple of own classes -/
inductive ClsNs (X : Cx) : List Str → List Expr → List Addr → Prop
  | nil : ClsNs X [] [] []
  | cons {x : Str} {C : Addr} {p : Pos} {xs : List Str} {es : List Expr} {Cs : List Addr} (hg : Gl X x) (hm : X.mg x = some (.ref C)) (hd : (x == ("__debug__" : Str)) = false) (hs : starEach (Expr.Name x p :: es) X.env = (false, eval (.Name x p) X.env) :: starEach es X.env) (t : ClsNs X xs es Cs) : ClsNs X (x :: xs) (.Name x p :: es) (C :: Cs)
def tRefs : List Addr → TA
  | [] => tNil
  | C :: Cs => tCons (tC (.ref C)) (tRefs Cs)
theorem tRefs_run : ∀ {Cs : List Addr} {σ : L2.St} {H : Hp} {Q : List V → Hp → Prop}, Q (Cs.map V.ref) H → tRefs Cs σ H Q
  | [], _, _, _, h => h
  | C :: Cs, σ, H, Q, h => show tRefs Cs σ H (fun xs H2 => Q (V.ref C :: xs) H2) from tRefs_run h
theorem ClsNs.pa {X : Cx} {xs : List Str} {es : List Expr} {Cs : List Addr} (h : ClsNs X xs es Cs) : PA X es (tRefs Cs) := by
  induction h with
  | nil => exact pa_nil
  | cons hg hm hd hs _ ih => exact pa_cons (pe_glob hg hm rfl hd) ih hs
theorem ClsNs.suite {X : Cx} {xs : List Str} {es : List Expr} {Cs : List Addr} (h : ClsNs X xs es Cs) (a : Addr) (pn : List (Addr × Obj)) : ClsNs (X.suite a pn) xs es Cs := by
  induction h with
  | nil => exact .nil
  | cons hg hm hd hs _ ih => exact .cons hg hm hd hs ih
theorem ClsNs.kit {X : Cx} {cl : List Str} {prs : List (Str × Str × Bool)} {flds : List (Str × Str)} (T : ExT X.K X.mg cl prs flds) {n : Str} {C : Addr} (hn : X.mg n = some (.ref C)) {xs : List Str} {es : List Expr} {Cs : List Addr} (h : ClsNs X xs es Cs) : ∀ {b : Bool}, isaL cl prs n xs = some b →
    PySem.W.kitAny X.K (.ref C) (Cs.map Value.ref) = some b := by
  induction h with
  | nil => intro b z; cases z; rfl
  | @cons x D p xs es Cs hg hm hd hs _ ih =>
    intro b z
    unfold isaL at z
    have one : ∀ c, isaT cl prs n x = some c → PySem.W.kitOne X.K (.ref C) (.ref D) = some c ∨ (PySem.W.kitOne X.K (.ref C) (.ref D) = some true) := fun c hc => by
      unfold PySem.W.kitOne
      split
      · exact .inr rfl
      · exact .inl (T.kit hn hm hc)
    cases q : isaT cl prs n x with
    | none => rw [q] at z; cases z
    | some c =>
      rw [q] at z
      have hk := T.kit hn hm q
      show PySem.W.kitAny X.K (.ref C) (Value.ref D :: Cs.map Value.ref) = some b
      cases c with
      | true =>
        cases z
        refine kitAny_cons (b := true) ?_ (fun y => by cases y) (fun _ => rfl)
        rcases one true q with k | k <;> exact k
      | false =>
        refine kitAny_cons (b := false) ?_ (fun _ => ih z) (fun y => by cases y)
        unfold PySem.W.kitOne
        split
        · rename_i he
          exfalso
          have hCD : C = D := Value.ref.inj (beq_iff_eq.mp he)
          subst hCD
          obtain ⟨h1, h2, h3⟩ := T.sub hn hm q
          have := (T.own h1 hn).2.2
          rw [h3] at this
          cases this
        · exact hk
section
variable {X : Cx} {a : Addr} {oe : Obj} {cls : Value} {d : Option Addr} {pn : List (Addr × Obj)} {er : Er} {pos p p1 p2 : Pos} {x n : Str} {cl : List Str} {prs : List (Str × Str × Bool)} {flds : List (Str × Str)}
theorem paired_cls : ∀ {Cs : List Addr}, Paired ClsV (Cs.map V.ref) (Cs.map Value.ref)
  | [] => .nil
  | C :: _ => .cons (.own C) paired_cls
theorem se_isL (i : Nat) {ns : List Str} {es : List Expr} {Cs : List Addr} {k : Nat} (T : ExT X.K X.mg cl prs flds) (hns : ClsNs X ns es Cs) (hz : Zc cls d oe) (hf : ∃ vs, oe.data = .fields vs) (hg : Gl X "isinstance") (hm : X.mg "isinstance" = none) (hlen : Cs.length ≤ 1000)
    (hN : X.N[i]? = some x := by rfl) (hv : Vis X.env.scope x := by first | exact Or.inl rfl | exact Or.inr (Or.inl rfl) | exact Or.inr (Or.inr rfl)) (hdb : (x == ("__debug__" : Str)) = false := by decide) (hcd : (x == ("__classdict__" : Str)) = false := by decide)
    (he : starEach [.Name x p1, .Tuple es k p2] X.env = (false, eval (.Name x p1) X.env) :: starEach [.Tuple es k p2] X.env := by rfl) (he2 : starEach [.Tuple es k p2] X.env = (false, eval (.Tuple es k p2) X.env) :: starEach [] X.env := by rfl)
    (hpl : (backTo pos (starEach [.Tuple es k p2] X.env)).any (·.1) = false := by rfl) :
    SE (X.suite a ((a, oe) :: pn)) (WS X a er cls d) (.Call (.Name "isinstance" p) [.Name x p1, .Tuple es k p2] [] pos) (eIsL cl prs er i ns) := by
  by_cases hC : ∃ C, cls = .ref C ∧ ExcC X.K C
  · obtain ⟨C, rfl, hC⟩ := hC
    refine ⟨_, pe_callB (X := X.suite a ((a, oe) :: pn)) (call_isL hC hz hf) hg hm rfl (pa_cons (X := X.suite a ((a, oe) :: pn)) (pe_var (X := X.suite a ((a, oe) :: pn)) hN hv hdb hcd) (pa_cons (X := X.suite a ((a, oe) :: pn)) (pe_tup (hns.suite a ((a, oe) :: pn)).pa) pa_nil he2) he) (by decide) (by decide) he hpl, fun g hw F ρ σ H Q rel z => ?_⟩
    · obtain ⟨hex, C', hC', hcls, hd⟩ := hw
      obtain rfl := Value.ref.inj hcls
      unfold eIsL at z
      split at z
      case h_2 => exact z.elim
      case h_1 hρ =>
        obtain ⟨a', h1, h2⟩ := rel.exs i hρ
        rw [hex] at h1; cases h1
        split at z
        case h_2 => exact z.elim
        case h_1 b hb =>
          split at z
          case isFalse => exact z.elim
          case isTrue hn =>
            refine ⟨_, h2, ?_⟩
            refine tRefs_run ⟨by rw [List.length_map]; exact Nat.le_trans hlen (by decide), fun q hq => ?_⟩
            have hF := rel.ext.none hq
            refine ⟨q, _, Cs.map Value.ref, b, rfl, upd_same, paired_cls, hns.kit T hC' hb, ?_, ?_⟩
            · cases hfs : er.fs with
              | none => rw [hfs] at hd; exact .inl hd
              | some fs =>
                rw [hfs] at hd
                obtain ⟨dd, ks, xs, vs, rfl, rfl, hl, h3, h4⟩ := hd
                have h5 := rel.ext _ _ (rel.f0 _ _ h3)
                exact .inr ⟨dd, _, rfl, by rw [upd_ne (ne_of_none h5 hq)]; exact h5⟩
            · exact z _ F _ (Ext.refl F) (rel.alloc hq) (.bl b)
  · refine ⟨_, pe_never, fun g hw F ρ σ H Q rel z => hC ?_⟩
    obtain ⟨hex, C', hC', hcls, hd⟩ := hw
    unfold eIsL at z
    split at z
    case h_2 => exact z.elim
    case h_1 hρ =>
      split at z
      case h_2 => exact z.elim
      case h_1 b hb =>
        split at z
        case isFalse => exact z.elim
        case isTrue hn => exact ⟨C', hcls, (T.own hn hC').1⟩
end
end P0
end
section
set_option Elab.async false
set_option linter.all false
set_option maxRecDepth 100000
set_option maxHeartbeats 4000000
/-! P0: zip and enumerate over lists, tuples and texts alike. -/
namespace P0
open PySem PySem.Spec L2
open PyProof.Rows hiding St

theorem valsGet : ∀ {xs : List V} {us : List Value} {i : Nat} {u : Value}, Vals xs us → us[i]? = some u → ∃ x, xs[i]? = some x ∧ RelV x u
  | _, _, _, _, .nil, e => by simp at e
  | _, _, 0, _, .cons r _, e => by simp at e; subst e; exact ⟨_, rfl, r⟩
  | _, _, i + 1, u, .cons _ t, e => by
    obtain ⟨x, h1, h2⟩ := valsGet (i := i) (u := u) t (by simpa using e)
    exact ⟨x, by simpa using h1, h2⟩
inductive Kd where
  | l (a : Addr) | t (a : Addr) | s (x : Str)
namespace Kd
def v : Kd → V
  | .l a => .ref a
  | .t a => .ref a
  | .s x => .str x
def ar : Kd → List Addr
  | .l a => [a]
  | .t a => [a]
  | .s _ => []
def at' (K : PySem.W.Frag) (H : Hp) : Kd → List V → Prop
  | .l a, xs => SqL K H a xs
  | .t a, xs => SqT K H a xs
  | .s x, xs => xs = x.cps.toList.map fun c => V.str ⟨#[c]⟩
def it (h : Heap) (i1 : Addr) (i : Nat) : Kd → Prop
  | .l a => h.IsListIter i1 a i
  | .t a => h.IsTupleIter i1 a i
  | .s x => ∃ u, h.IsStrIter i1 (strIterType x) x u i
theorem ext {K : PySem.W.Frag} {F G : Hp} (e : Ext F G) : ∀ {k : Kd} {xs : List V}, k.at' K F xs → k.at' K G xs
  | .l _, _, h => SqL.ext e h
  | .t _, _, h => SqT.ext e h
  | .s _, _, h => h
theorem it_obj {h : Heap} {i1 : Addr} {i : Nat} : ∀ {k : Kd}, k.it h i1 i → ∃ o, h.get? i1 = some o ∧ ∀ v, o.data ≠ .cell v
  | .l _, ⟨o, e, _, d⟩ => ⟨o, e, fun v q => by rw [d] at q; cases q⟩
  | .t _, ⟨o, e, _, d⟩ => ⟨o, e, fun v q => by rw [d] at q; cases q⟩
  | .s _, ⟨_, o, e, _, d⟩ => ⟨o, e, fun v q => by rw [d] at q; cases q⟩
theorem it_keep {h h' : Heap} {i1 : Addr} {i : Nat} (hk : ∀ o, h.get? i1 = some o → h'.get? i1 = some o) : ∀ {k : Kd}, k.it h i1 i → k.it h' i1 i
  | .l _, st => Heap.IsListIter.at st hk
  | .t _, st => Heap.IsTupleIter.at st hk
  | .s _, ⟨u, o, ho, r⟩ => ⟨u, o, hk o ho, r⟩
section
variable {X : Cx} {pins : List (Addr × Obj)} {σ : L2.St} {H : Hp} {s : Shared} {xs : List V}
theorem draws (I : Inv X pins σ H s) (hh : X.A.handled = none) {i1 : Addr} {i : Nat} : ∀ {k : Kd}, k.at' X.K H xs → k.it s.heap i1 i → (∀ a ∈ k.ar, a ≠ i1) →
    ∃ P St, Draws X.prog X.w X.A.in1 i1 (i1 :: k.ar) xs.length P St ∧ St i s.heap ∧ (∀ i h, St i h → k.it h i1 i) ∧ ∀ i u, P i u → ∃ x, xs[i]? = some x ∧ RelV x u
  | .l a, h, st, hne => by
    obtain ⟨its, rv, p, _⟩ := I.list h
    have D := Draws.list (prog := X.prog) (w := X.w) (show X.A.in1.handled = none from hh) i1 a (hne a (by simp [ar])) its.toArray
    rw [show its.toArray.size = xs.length by rw [rv.length]; simp] at D
    exact ⟨_, _, D, ⟨st, p.isList⟩, fun i h q => q.1, fun i u hu => valsGet rv (show its[i]? = some u by simpa using hu)⟩
  | .t a, h, st, hne => by
    obtain ⟨its, rv, p, _⟩ := I.tuple h
    have D := Draws.tuple (prog := X.prog) (w := X.w) (show X.A.in1.handled = none from hh) i1 a (hne a (by simp [ar])) its.toArray
    rw [show its.toArray.size = xs.length by rw [rv.length]; simp] at D
    exact ⟨_, _, D, ⟨st, p⟩, fun i h q => q.1, fun i u hu => valsGet rv (show its[i]? = some u by simpa using hu)⟩
  | .s x, h, ⟨u0, st⟩, hne => by
    have D := Draws.text (prog := X.prog) (w := X.w) (show X.A.in1.handled = none from hh) i1 x u0
    rw [show x.cps.size = xs.length by rw [h]; simp] at D
    refine ⟨_, _, D, st, fun i h q => ⟨_, q⟩, fun i u hu => ?_⟩
    obtain ⟨c, t, hc, rfl⟩ := hu
    refine ⟨.str ⟨#[c]⟩, ?_, t, rfl⟩
    rw [h, List.getElem?_map, Array.getElem?_toList, hc]; rfl
theorem begins (I : Inv X pins σ H s) : ∀ {k : Kd} {u : Value}, k.at' X.K H xs → RelV k.v u → ∃ o P, Begins u o P ∧ P s.heap ∧ (∀ h i1, h.get? i1 = some o → k.it h i1 0) ∧ ∀ a ∈ k.ar, a < s.heap.objs.size
  | .l a, u, h, r => by
    cases (show u = .ref a from r)
    obtain ⟨its, rv, p, _⟩ := I.list h
    exact ⟨_, _, begins_list a its.toArray, p.isList, fun h i1 e => ⟨_, e, rfl, rfl⟩, fun b hb => by rw [show b = a by simpa [ar] using hb]; exact p.lt⟩
  | .t a, u, h, r => by
    cases (show u = .ref a from r)
    obtain ⟨its, rv, p, _⟩ := I.tuple h
    have p' : s.heap.IsTuple a its.toArray := p
    exact ⟨_, _, begins_tuple a its.toArray, p, fun h i1 e => ⟨_, e, rfl, rfl⟩, fun b hb => by
      rw [show b = a by simpa [ar] using hb]
      obtain ⟨o, e, _⟩ := p'
      exact Heap.lt_size e⟩
  | .s x, u, h, r => by
    obtain ⟨t, rfl⟩ := (show ∃ t, u = Value.str x t from r)
    exact ⟨_, _, begins_text x t, True.intro, fun h i1 e => ⟨t, _, e, rfl, rfl⟩, fun b hb => by simp [ar] at hb⟩
theorem at_inj (I : Inv X pins σ H s) {ys : List V} : ∀ {k : Kd}, k.at' X.K H xs → k.at' X.K H ys → xs = ys
  | .l _, h, h' => I.list_inj h h'
  | .t _, h, h' => I.tuple_inj h h'
  | .s _, h, h' => h.trans h'.symm
end
end Kd

/-- the items of two walked things, in new pairs -/
def ItzK (K : PySem.W.Frag) (k1 k2 : Kd) : It :=
  ⟨fun i H => ∃ (xs ys : List V), k1.at' K H xs ∧ k2.at' K H ys ∧ i < xs.length ∧ i < ys.length,
    fun i H v H' => ∃ T x y, v = .ref T ∧ H T = none ∧ H' = upd H T (.tup [x, y]) ∧ (∀ xs, k1.at' K H xs → xs[i]? = some x) ∧ ∀ ys, k2.at' K H ys → ys[i]? = some y,
    fun i H => ∃ xs ys : List V, k1.at' K H xs ∧ k2.at' K H ys ∧ i = min xs.length ys.length⟩
theorem turn_zipK {P : Program} {w : World} {K : PySem.W.Frag} {elts : List Expr} {kk : Nat} {tpos : Pos} {k1 k2 : Kd} {z TI TO i1 i2 : Addr} (S : ZipSep2 z TI TO i1 i2 (i1 :: k1.ar) (i2 :: k2.ar)) (n1 : ∀ a ∈ k1.ar, a ≠ i1) (n2 : ∀ a ∈ k2.ar, a ≠ i2) :
    Turn P w K (.Tuple elts kk tpos) (ItzK K k1 k2) [z, TI, TO, i1, i2] z (fun i h => IsZip h z TI TO .none ∧ IsTupOf2 h TI (.ref i1) (.ref i2) ∧ (∃ x y, IsTupOf2 h TO x y) ∧ k1.it h i1 i ∧ k2.it h i2 i) where
  mem := by simp
  obj := fun i h st c hc => by
    obtain ⟨hz, hTI, ⟨x, y, hTO⟩, h1, h2⟩ := st
    have e' : c = z ∨ c = TI ∨ c = TO ∨ c = i1 ∨ c = i2 := by simpa using hc
    rcases e' with q | q | q | q | q
    · rw [q]; exact ⟨_, hz, fun v q => nomatch q⟩
    · rw [q]; exact ⟨_, hTI, fun v q => nomatch q⟩
    · rw [q]; exact ⟨_, hTO, fun v q => nomatch q⟩
    · rw [q]; exact Kd.it_obj h1
    · rw [q]; exact Kd.it_obj h2
  keep := fun i h h' st k => by
    obtain ⟨hz, hTI, ⟨x, y, hTO⟩, h1, h2⟩ := st
    exact ⟨k z (by simp) _ hz, k TI (by simp) _ hTI, ⟨x, y, k TO (by simp) _ hTO⟩, Kd.it_keep (fun o q => k i1 (by simp) o q) h1, Kd.it_keep (fun o q => k i2 (by simp) o q) h2⟩
  item := by
    intro X hP hw hK hc i pins s σ H E I hf st hg
    subst hP hw hK
    obtain ⟨hz, hTI, ⟨x0, y0, hTO⟩, h1, h2⟩ := st
    obtain ⟨xs, ys, hqx, hqy, hx, hy⟩ := hg
    obtain ⟨P1, St1, D1, s1, g1, r1⟩ := Kd.draws I (I.ok.hd hc) hqx h1 n1
    obtain ⟨P2, St2, D2, s2, g2, r2⟩ := Kd.draws I (I.ok.hd hc) hqy h2 n2
    have hzl : z < s.heap.objs.size := Heap.lt_size hz
    refine wpAny_pyNext_zipD2_item S D1 D2 hz hTI hTO s1 s2 hx hy fun u u2 h' tk p1 p2 z' TO' st1 st2 hT hsz hk => ?_
    obtain ⟨x, hxi, ru⟩ := r1 _ _ p1
    obtain ⟨y, hyi, ru2⟩ := r2 _ _ p2
    refine ⟨_, rfl, wpAny_letOwnedTupleGo_zip (s := { s with heap := h', toks := tk }) z' fun h'' z'' sb => ?_⟩
    have hT2 : h''.get? s.heap.objs.size = some { cls := .type "tuple", data := .seq #[u, u2] } := (sb.2 _ (Nat.ne_of_gt hzl)).trans hT
    have new : ObjOk X.prog X.w (upd H s.heap.objs.size (.tup [x, y])) h'' s.heap.objs.size (.tup [x, y]) :=
      ⟨by show 2 ≤ sizeLine; decide, [u, u2], .cons ru (.cons ru2 .nil), ⟨_, hT2, rfl, _, rfl⟩⟩
    have I1 : Inv X pins σ (upd H s.heap.objs.size (.tup [x, y])) { s with heap := h'', toks := tk } :=
      I.turnedNew (t' := tk) (ch := [z, TI, TO, i1, i2]) (fun c o hb q => (sb.2 c (fun q' => hb (by simp [q']))).trans (hk c o (fun q' => hb (by simp [q'])) (fun q' => hb (by simp [q'])) (fun q' => hb (by simp [q'])) (fun q' => hb (by simp [q'])) q)) hf (Nat.le_refl _) new
    refine ⟨.ref s.heap.objs.size, _, I1, rfl, ⟨_, x, y, rfl, I.hok.fresh (Nat.le_refl _), rfl, fun l hl => by rw [Kd.at_inj I hl hqx]; exact hxi, fun l hl => by rw [Kd.at_inj I hl hqy]; exact hyi⟩, ⟨z'', ?_, ⟨u, u2, ?_⟩, ?_, ?_⟩, fun c hcm => ?_⟩
    · exact (sb.2 _ S.TIz).trans (hk _ _ S.TIz S.TITO S.TIi1 S.TIi2 hTI)
    · exact (sb.2 _ S.TOz).trans TO'
    · exact Kd.it_keep (fun o q => (sb.2 _ S.zi1.symm).trans q) (g1 _ _ st1)
    · exact Kd.it_keep (fun o q => (sb.2 _ S.zi2.symm).trans q) (g2 _ _ st2)
    · have hlt : c < s.heap.objs.size := by
        have e' : c = z ∨ c = TI ∨ c = TO ∨ c = i1 ∨ c = i2 := by simpa using hcm
        rcases e' with q | q | q | q | q
        · rw [q]; exact hzl
        · rw [q]; exact Heap.lt_size hTI
        · rw [q]; exact Heap.lt_size hTO
        · rw [q]; obtain ⟨_, e1, _⟩ := Kd.it_obj h1; exact Heap.lt_size e1
        · rw [q]; obtain ⟨_, e2, _⟩ := Kd.it_obj h2; exact Heap.lt_size e2
      rw [upd_ne (Nat.ne_of_lt hlt)]
      exact (hf c hcm).1
  done := by
    intro X hP hw hK hc i pins s σ H E I hf st hg
    subst hP hw hK
    obtain ⟨hz, hTI, ⟨x0, y0, hTO⟩, h1, h2⟩ := st
    obtain ⟨xs, ys, hqx, hqy, hend⟩ := hg
    obtain ⟨P1, St1, D1, s1, g1, r1⟩ := Kd.draws I (I.ok.hd hc) hqx h1 n1
    obtain ⟨P2, St2, D2, s2, g2, r2⟩ := Kd.draws I (I.ok.hd hc) hqy h2 n2
    exact wpAny_pyNext_zipD2_end S D1 D2 hz hTI hTO s1 s2 (by omega) (by omega) (by omega) fun h' tk hk => ⟨rfl, I.turnedL (t' := tk) (ch := [z, TI, TO, i1, i2]) (fun c o hb q =>
      hk c o (fun q' => hb (by simp [q'])) (fun q' => hb (by simp [q'])) (fun q' => hb (by simp [q'])) (fun q' => hb (by simp [q'])) q) hf⟩
  self := fun A i s Q E st h => wpAny_pyIter_zip st.1 h
def iZipK (K : PySem.W.Frag) (ta : TA) : TI := fun σ H R => ta σ H fun vs H1 => ∃ (k1 k2 : Kd) (xs ys : List V), vs = [k1.v, k2.v] ∧ k1.at' K H1 xs ∧ k2.at' K H1 ys ∧ R (ItzK K k1 k2) H1
theorem pi_zipK {X : Cx} {e e2 : Expr} {ta : TA} {p pos tpos : Pos} {elts : List Expr} {kk : Nat} (hg : Gl X "zip") (hm : X.mg "zip" = none) (ha : PA X [e, e2] ta)
    (hs : starEach [e, e2] X.env = (false, eval e X.env) :: starEach [e2] X.env := by rfl) (hpl : (backTo pos (starEach [e2] X.env)).any (·.1) = false := by rfl) :
    PI X (.Tuple elts kk tpos) (.Call (.Name "zip" p) [e, e2] [] pos) (iZipK X.K ta) := by
  refine ⟨fun pins s σ H R I h => ?_⟩
  refine Call_ (ld_blt I hg hm PyProof.Rows.boot_zip (PyProof.Rows.callWith_type1 (thn (ha.run pos pins s σ H _ I h) fun us s1 ⟨vs, H1, I1, r1, q1⟩ => ?_) hs hpl))
  obtain ⟨k1, k2, xs, ys, rfl, hqx, hqy, q⟩ := q1
  obtain ⟨u1, u2, rfl, ru1, ru2⟩ := vals2 r1
  have fresh5 : ∀ c, c ∈ [s1.heap.objs.size + 4, s1.heap.objs.size + 2, s1.heap.objs.size + 3, s1.heap.objs.size, s1.heap.objs.size + 1] → FpOk X pins H1 c := fun c hcm => by
    have e' : c = s1.heap.objs.size + 4 ∨ c = s1.heap.objs.size + 2 ∨ c = s1.heap.objs.size + 3 ∨ c = s1.heap.objs.size ∨ c = s1.heap.objs.size + 1 := by simpa using hcm
    have hle : s1.heap.objs.size ≤ c := by
      rcases e' with z | z | z | z | z
      · rw [z]; exact Nat.le_add_right _ _
      · rw [z]; exact Nat.le_add_right _ _
      · rw [z]; exact Nat.le_add_right _ _
      · rw [z]; exact Nat.le_refl _
      · rw [z]; exact Nat.le_add_right _ _
    exact I1.fpOk hle (I1.hok.fresh hle)
  obtain ⟨o1, P1, B1, b1, c1, l1⟩ := Kd.begins I1 hqx ru1
  obtain ⟨o2, P2, B2, b2, c2, l2⟩ := Kd.begins I1 hqy ru2
  refine zip_begins2 B1 B2 b1 b2 fun h' hz hTI hTO h1 h2 hsz hk => wpAny_pyIter_zip hz ?_
  have I2 : Inv X pins σ H1 { s1 with heap := h' } := I1.kept (t' := s1.toks) hk
  exact ⟨s1.heap.objs.size + 4, [s1.heap.objs.size + 4, s1.heap.objs.size + 2, s1.heap.objs.size + 3, s1.heap.objs.size, s1.heap.objs.size + 1], _, _, H1, rfl, I2,
    turn_zipK (zip_sep2 l1 l2) (fun a ha => Nat.ne_of_lt (l1 a ha)) (fun a ha => Nat.ne_of_lt (Nat.lt_succ_of_lt (l2 a ha))), ⟨hz, hTI, ⟨_, _, hTO⟩, c1 _ _ h1, c2 _ _ h2⟩, fresh5, q⟩

/-- the items of a walked thing, counted, in new pairs -/
def IteK (K : PySem.W.Frag) (k : Kd) : It :=
  ⟨fun i H => ∃ (xs : List V), k.at' K H xs ∧ i < xs.length, fun i H v H' => ∃ T x, v = .ref T ∧ H T = none ∧ H' = upd H T (.tup [.int (i : Nat), x]) ∧ ∀ xs, k.at' K H xs → xs[i]? = some x, fun i H => ∃ xs : List V, k.at' K H xs ∧ i = xs.length⟩
theorem turn_enumK {P : Program} {w : World} {K : PySem.W.Frag} {elts : List Expr} {kk : Nat} {tpos : Pos} {k : Kd} {e it : Addr} (hne : e ≠ it) (he' : ∀ a ∈ k.ar, a ≠ e) (hi' : ∀ a ∈ k.ar, a ≠ it) :
    Turn P w K (.Tuple elts kk tpos) (IteK K k) [e, it] e (fun i h => (∃ old, IsEnum h e it ((i : Nat) : Int) old) ∧ k.it h it i) where
  mem := by simp
  obj := fun i h st b hb => by
    obtain ⟨⟨old, he⟩, hi⟩ := st
    have e' : b = e ∨ b = it := by simpa using hb
    rcases e' with z | z
    · rw [z]; exact ⟨_, he, fun v q => nomatch q⟩
    · rw [z]; exact Kd.it_obj hi
  keep := fun i h h' st k => let ⟨⟨old, he⟩, hi⟩ := st; ⟨⟨old, k e (by simp) _ he⟩, Kd.it_keep (fun o q => k it (by simp) o q) hi⟩
  item := by
    intro X hP hw hK hc i pins s σ H E I hf st hg
    subst hP hw hK
    obtain ⟨⟨old, he⟩, hit⟩ := st
    obtain ⟨xs, hq, hx⟩ := hg
    obtain ⟨P1, St1, D1, s1, g1, r1⟩ := Kd.draws I (I.ok.hd hc) hq hit hi'
    have hel : e < s.heap.objs.size := Heap.lt_size he
    have hil : it < s.heap.objs.size := by obtain ⟨_, q, _⟩ := Kd.it_obj hit; exact Heap.lt_size q
    have hef : e ∉ it :: k.ar := fun q => by
      rcases List.mem_cons.mp q with q | q
      · exact hne q
      · exact he' e q rfl
    refine wpAny_pyNext_enum_itemD D1 he s1 hx hne hef fun u h' tk p1 ho st1 hT hsz hk => ?_
    obtain ⟨x, hxi, ru⟩ := r1 _ _ p1
    refine ⟨_, rfl, wpAny_letOwnedTupleGo_enum (s := { s with heap := h', toks := tk + 1 }) ho fun h'' he'' sb => ?_⟩
    have hT2 : h''.get? s.heap.objs.size = some { cls := .type "tuple", data := .seq #[.int i tk, u] } := (sb.2 _ (Nat.ne_of_gt hel)).trans hT
    have new : ObjOk X.prog X.w (upd H s.heap.objs.size (.tup [.int (i : Nat), x])) h'' s.heap.objs.size (.tup [.int (i : Nat), x]) :=
      ⟨by show 2 ≤ sizeLine; decide, [.int i tk, u], .cons ⟨_, rfl⟩ (.cons ru .nil), ⟨_, hT2, rfl, _, rfl⟩⟩
    have I1 : Inv X pins σ (upd H s.heap.objs.size (.tup [.int (i : Nat), x])) { s with heap := h'', toks := tk + 1 } :=
      I.turnedNew (ch := [e, it]) (fun b ob hb q => (sb.2 b (fun z => hb (by simp [z]))).trans (hk b ob (fun z => hb (by simp [z])) (fun z => hb (by simp [z])) q)) hf (Nat.le_refl _) new
    refine ⟨.ref s.heap.objs.size, _, I1, rfl, ⟨_, x, rfl, I.hok.fresh (Nat.le_refl _), rfl, fun ys hy => by rw [Kd.at_inj I hy hq]; exact hxi⟩, ⟨⟨u, ?_⟩, Kd.it_keep (fun o q => (sb.2 it (Ne.symm hne)).trans q) (g1 _ _ st1)⟩, fun b hb => ?_⟩
    · have e1 : ((i + 1 : Nat) : Int) = (i : Int) + 1 := by omega
      rw [e1]; exact he''
    · have hb' : b < s.heap.objs.size := by
        have e' : b = e ∨ b = it := by simpa using hb
        rcases e' with z | z
        · rw [z]; exact hel
        · rw [z]; exact hil
      rw [upd_ne (Nat.ne_of_lt hb')]
      exact (hf b hb).1
  done := by
    intro X hP hw hK hc i pins s σ H E I hf st hg
    subst hP hw hK
    obtain ⟨⟨old, he⟩, hit⟩ := st
    obtain ⟨xs, hq, hx⟩ := hg
    obtain ⟨P1, St1, D1, s1, g1, r1⟩ := Kd.draws I (I.ok.hd hc) hq hit hi'
    obtain ⟨f0, f1, f2, f3, f4, f5⟩ := hf it (by simp)
    subst hx
    exact wpAny_pyNext_enum_endD D1 he s1 fun h' eb => ⟨rfl, I.turned (t' := s.toks) (fun b o hb q => eb b o hb q) f0 f1 f3 f4 f5⟩
  self := fun A i s Q E st h => let ⟨⟨_, he⟩, _⟩ := st; wpAny_pyIter_enum he h
theorem meets_enum1 {v : Value} {o : Obj} {H : Heap → Prop} (B : Begins v o H) :
    Meets (Builtin.«enumerate.__new__» ⟨[.type "enumerate", v], []⟩) (fun _ R s => H s.heap ∧
      R (.ok (.ret (.ref (s.heap.push o).objs.size))) { s with heap := (s.heap.push o).push { cls := .type "enumerate", data := .fields #[.none, .bool false, .ref s.heap.objs.size, rawInt 0, .none, .none] } }) :=
  .of_wp fun prog w A R s h => by
    obtain ⟨hp, g, d, tk, os⟩ := s; obtain ⟨h1, h⟩ := h
    have hsub := sub_enumerate
    have q1 : ∀ {A' : Around} {E : Value → Shared → Prop} {Q : Value → Shared → Prop}, Q (.ref hp.objs.size) ⟨hp.push o, g, d, tk, os⟩ → wpAny (model prog w) A' (pyIter v) Q E ⟨hp, g, d, tk, os⟩ :=
      fun q => B.iter prog w _ _ ⟨hp, g, d, tk, os⟩ _ h1 q
    wp_walk using q1
    refine wpAny_stack_any fun st => wpAny_pure ?_
    split
    · rename_i c _ _ _ _ _
      cases (c == Value.type "enumerate")
      · wp_walk using q1
        exact ⟨_, rfl, h⟩
      · wp_walk using q1
        exact ⟨_, rfl, h⟩
    · wp_walk using q1
      exact ⟨_, rfl, h⟩
theorem enum_begins1 {prog : Program} {w : World} {A : Around} {E : Value → Shared → Prop} {s : Shared} {v : Value} {o : Obj} {H : Heap → Prop} {Q : Value → Shared → Prop} (B : Begins v o H) (h1 : H s.heap)
    (h : ∀ h', IsEnum h' (s.heap.objs.size + 1) s.heap.objs.size 0 .none → h'.get? s.heap.objs.size = some o → h'.objs.size = s.heap.objs.size + 2 →
      (∀ b o, s.heap.get? b = some o → h'.get? b = some o) → Q (.ref (s.heap.objs.size + 1)) { s with heap := h' }) :
    wpAny (model prog w) A (call (.type "enumerate") [v]) Q E s := by
  refine callType_new F.called_enumerate (by decide) (F.typeCall_enumerate_1 _) (F.newCall_enumerate_1 _) (fun obj => F.args_object_init_2 obj _) F.entry_enumerate_new (meets_enum1 B) ⟨h1, ?_⟩
  have hz : (s.heap.push o).objs.size = s.heap.objs.size + 1 := Heap.size_push ..
  show _ ∧ _
  rw [hz]
  have he : IsEnum ((s.heap.push o).push { cls := .type "enumerate", data := .fields #[.none, .bool false, .ref s.heap.objs.size, rawInt 0, .none, .none] }) (s.heap.objs.size + 1) s.heap.objs.size 0 .none := by
    have := Heap.get?_push_size (s.heap.push o) (o := { cls := .type "enumerate", data := .fields #[.none, .bool false, .ref s.heap.objs.size, rawInt 0, .none, .none] }) rfl
    rw [hz] at this; exact this
  refine ⟨⟨_, he, rfl⟩, h _ he (Heap.get?_push_of_some _ (Heap.get?_push_size _ B.free)) (by rw [Heap.size_push, hz]) fun b o x => Heap.get?_push_of_some _ (Heap.get?_push_of_some _ x)⟩
def iEnumK (K : PySem.W.Frag) (ta : TA) : TI := fun σ H R => ta σ H fun vs H1 => ∃ (k : Kd) (xs : List V), vs = [k.v] ∧ k.at' K H1 xs ∧ R (IteK K k) H1
theorem pi_enumK {X : Cx} {e : Expr} {ta : TA} {p pos tpos : Pos} {elts : List Expr} {kk : Nat} (hg : Gl X "enumerate") (hm : X.mg "enumerate" = none) (ha : PA X [e] ta) (hs : starEach [e] X.env = [(false, eval e X.env)] := by rfl) :
    PI X (.Tuple elts kk tpos) (.Call (.Name "enumerate" p) [e] [] pos) (iEnumK X.K ta) := by
  refine ⟨fun pins s σ H R I h => ?_⟩
  refine Call_ (ld_blt I hg hm boot_enumerate (PyProof.Rows.callWith_type1 (thn (ha.run pos pins s σ H _ I h) fun us s1 ⟨vs, H1, I1, r1, q1⟩ => ?_) hs rfl))
  obtain ⟨k, xs, rfl, hq, q⟩ := q1
  obtain ⟨u, rfl, ru⟩ := vals1 r1
  obtain ⟨o1, P1, B1, b1, c1, l1⟩ := Kd.begins I1 hq ru
  refine enum_begins1 B1 b1 fun h' he hit hsz hk => wpAny_pyIter_enum he ?_
  have I2 : Inv X pins σ H1 { s1 with heap := h' } := I1.kept (t' := s1.toks) hk
  refine ⟨s1.heap.objs.size + 1, [s1.heap.objs.size + 1, s1.heap.objs.size], _, _, H1, rfl, I2, turn_enumK (k := k) (e := s1.heap.objs.size + 1) (it := s1.heap.objs.size) (Nat.succ_ne_self _) (fun a ha => Nat.ne_of_lt (Nat.lt_succ_of_lt (l1 a ha))) (fun a ha => Nat.ne_of_lt (l1 a ha)), ⟨⟨.none, he⟩, c1 _ _ hit⟩, fun b hb => ?_, q⟩
  have e' : b = s1.heap.objs.size + 1 ∨ b = s1.heap.objs.size := by simpa using hb
  have hle : s1.heap.objs.size ≤ b := by
    rcases e' with z | z
    · rw [z]; exact Nat.le_add_right _ _
    · rw [z]; exact Nat.le_refl _
  exact I1.fpOk hle (I1.hok.fresh hle)

/-! ### the meaning -/
section
variable {K : PySem.W.Frag} {F : Hp}
theorem Reps.chars {x : Str} : Reps K F (P0.chars x) (x.cps.toList.map fun c => V.str ⟨#[c]⟩) := by
  unfold P0.chars
  induction x.cps.toList with
  | nil => exact .nil
  | cons c t ih => exact .cons (.str _) ih
theorem kd_of {d : Dv} {v : V} {ds : List Dv} (h : Rep K F d v) (hw : walk? d = some ds) : ∃ (k : Kd) (vs : List V), k.v = v ∧ k.at' K F vs ∧ Reps K F ds vs := by
  cases h with
  | lst a b => cases hw; exact ⟨.l _, _, rfl, SqL.of a, b⟩
  | rls a b => cases hw; exact ⟨.l _, _, rfl, a, b⟩
  | tup a b => cases hw; exact ⟨.t _, _, rfl, a, b⟩
  | str x => cases hw; exact ⟨.s x, _, rfl, rfl, Reps.chars⟩
  | _ => cases hw
theorem itOk_zipK {k1 k2 : Kd} {vs us : List V} {ds es : List Dv} (h : k1.at' K F vs) (h' : k2.at' K F us) (r : Reps K F ds vs) (r' : Reps K F es us) : ItOk K (ItzK K k1 k2) F (zipD ds es) where
  stop := fun F1 H1 e1 e2 => ⟨vs, us, Kd.ext e2 (Kd.ext e1 h), Kd.ext e2 (Kd.ext e1 h'), by
    have : (zipD ds es).length = min ds.length es.length := by simp [zipD]
    rw [this, r.length, r'.length]⟩
  go := fun i F1 H1 hi e1 e2 => by
    have : (zipD ds es).length = min ds.length es.length := by simp [zipD]
    rw [this, r.length, r'.length] at hi
    exact ⟨vs, us, Kd.ext e2 (Kd.ext e1 h), Kd.ext e2 (Kd.ext e1 h'), by omega, by omega⟩
  yld := fun i d F1 H1 x H2 hd e1 e2 hy => by
    obtain ⟨T, y, z, rfl, hT, rfl, k, k'⟩ := hy
    obtain ⟨p, q, hp, hq, rfl⟩ := zipD_at hd
    obtain ⟨v, h1, h2⟩ := r.get hp
    obtain ⟨u, h3, h4⟩ := r'.get hq
    have z1 := k vs (Kd.ext e2 (Kd.ext e1 h))
    rw [h1] at z1; cases z1
    have z2 := k' us (Kd.ext e2 (Kd.ext e1 h'))
    rw [h3] at z2; cases z2
    exact .inr ⟨T, _, _, rfl, hT, rfl, rfl, .cons (h2.mono e1) (.cons (h4.mono e1) .nil)⟩
theorem itOk_enumK {k : Kd} {vs : List V} {ds : List Dv} (h : k.at' K F vs) (r : Reps K F ds vs) : ItOk K (IteK K k) F (enumD ds) where
  stop := fun F1 H1 e1 e2 => ⟨vs, Kd.ext e2 (Kd.ext e1 h), by
    have : (enumD ds).length = ds.length := by simp [enumD]
    rw [this, r.length]⟩
  go := fun i F1 H1 hi e1 e2 => by
    have : (enumD ds).length = ds.length := by simp [enumD]
    rw [this, r.length] at hi
    exact ⟨vs, Kd.ext e2 (Kd.ext e1 h), hi⟩
  yld := fun i d F1 H1 x H2 hd e1 e2 hy => by
    obtain ⟨T, y, rfl, hT, rfl, k⟩ := hy
    obtain ⟨p, hp, rfl⟩ := enumD_at hd
    obtain ⟨v, h1, h2⟩ := r.get hp
    have z1 := k vs (Kd.ext e2 (Kd.ext e1 h))
    rw [h1] at z1; cases z1
    exact .inr ⟨T, _, _, rfl, hT, rfl, rfl, .cons (.int _) (.cons (h2.mono e1) .nil)⟩
end
section
variable {X : Cx} {W : Wh} {pos p : Pos}
def iZip2 (ma : M (List AV)) : M (List Dv) := do
  let as ← ma
  let ds ← aliL as
  match ds with
  | [a, b] => do
    let xs ← M.opt (walk? a)
    let ys ← M.opt (walk? b)
    pure (zipD xs ys)
  | _ => M.bad
theorem si_zip2 {a b : Expr} {tpos : Pos} {elts : List Expr} {kk : Nat} {ma : M (List AV)} (hg : Gl X "zip") (hm : X.mg "zip" = none) (ha : SA X W [a, b] ma) (hs : starEach [a, b] X.env = (false, eval a X.env) :: starEach [b] X.env := by rfl)
    (hpl : (backTo pos (starEach [b] X.env)).any (·.1) = false := by rfl) : SI X W (.Tuple elts kk tpos) (.Call (.Name "zip" p) [a, b] [] pos) (iZip2 ma) := by
  obtain ⟨t, pt, qt⟩ := ha.ex
  refine ⟨_, pi_zipK hg hm pt hs hpl, fun g hw F ρ σ H R rel z => ?_⟩
  unfold iZip2 at z
  rw [RP_bnd] at z
  refine qt g hw F ρ σ H _ rel (z.imp (fun as ρ1 z1 => ?_) fun _ _ k => k)
  intro vs F1 H1 e1 rel1 ok1
  rw [RP_bnd] at z1
  obtain ⟨ds, F2, ρ2, e2, r2, h2, z2⟩ := aliL_ok rel1 ok1 z1
  split at z2
  · rw [RP_bnd] at z2
    obtain ⟨xs, hx, z2⟩ := RP_opt z2
    rw [RP_bnd] at z2
    obtain ⟨ys, hy, z2⟩ := RP_opt z2
    obtain ⟨v, u, rfl, h3, h4⟩ := rep2 h2
    obtain ⟨k1, us, rfl, q1, q2⟩ := kd_of h3 hx
    obtain ⟨k2, ws, rfl, q3, q4⟩ := kd_of h4 hy
    exact ⟨k1, k2, us, ws, rfl, Kd.ext r2.ext q1, Kd.ext r2.ext q3, z2 _ F2 H1 (e1.trans e2) r2 (itOk_zipK q1 q3 q2 q4)⟩
  · exact z2.elim
def iEnum1 (ma : M (List AV)) : M (List Dv) := do
  let as ← ma
  let ds ← aliL as
  match ds with
  | [a] => do
    let xs ← M.opt (walk? a)
    pure (enumD xs)
  | _ => M.bad
theorem si_enum1 {a : Expr} {tpos : Pos} {elts : List Expr} {kk : Nat} {ma : M (List AV)} (hg : Gl X "enumerate") (hm : X.mg "enumerate" = none) (ha : SA X W [a] ma) (hs : starEach [a] X.env = [(false, eval a X.env)] := by rfl) :
    SI X W (.Tuple elts kk tpos) (.Call (.Name "enumerate" p) [a] [] pos) (iEnum1 ma) := by
  obtain ⟨t, pt, qt⟩ := ha.ex
  refine ⟨_, pi_enumK hg hm pt hs, fun g hw F ρ σ H R rel z => ?_⟩
  unfold iEnum1 at z
  rw [RP_bnd] at z
  refine qt g hw F ρ σ H _ rel (z.imp (fun as ρ1 z1 => ?_) fun _ _ k => k)
  intro vs F1 H1 e1 rel1 ok1
  rw [RP_bnd] at z1
  obtain ⟨ds, F2, ρ2, e2, r2, h2, z2⟩ := aliL_ok rel1 ok1 z1
  split at z2
  · rw [RP_bnd] at z2
    obtain ⟨xs, hx, z2⟩ := RP_opt z2
    obtain ⟨v, rfl, h3⟩ := rep1 h2
    obtain ⟨k1, us, rfl, q1, q2⟩ := kd_of h3 hx
    exact ⟨k1, us, rfl, Kd.ext r2.ext q1, z2 _ F2 H1 (e1.trans e2) r2 (itOk_enumK q1 q2)⟩
  · exact z2.elim
end
end P0
end
section
set_option Elab.async false
set_option linter.all false
set_option maxRecDepth 100000
set_option maxHeartbeats 4000000
/-! P0, owned trees: made of the things of slots, read as if frozen, changed at a place. -/
namespace P0
open PySem PySem.Spec L2
open PyProof.Rows hiding St

section
variable {K : PySem.W.Frag} {g : Gx} {F H : Hp} {ρ : VE} {σ : L2.St} {R S : List Addr} {p : Addr} {o : HO} {i : Nat}
theorem hold_hold : (g.hold (cells R H)).hold (cells S H) = g.hold (cells (R ++ S) H) := by
  have : plus (cells S H) (plus (cells R H) g.held) = plus (cells (R ++ S) H) g.held := by
    funext b
    by_cases h1 : b ∈ S <;> by_cases h2 : b ∈ R <;> cases hb : H b <;> simp [plus, cells, h1, h2, hb]
  show ({ g with held := plus (cells S H) (plus (cells R H) g.held) } : Gx) = { g with held := plus (cells (R ++ S) H) g.held }
  rw [this]
theorem one_cells (h : H p = some o) : one p o = cells [p] H := by
  funext b
  unfold cells
  by_cases z : b = p
  · rw [if_pos (List.mem_singleton.mpr z), z, one_same, h]
  · rw [one_ne z, if_neg (fun q => z (List.mem_singleton.mp q))]
theorem cells_upd (h : p ∉ R) : cells R (upd H p o) = cells R H := by
  funext b
  unfold cells
  by_cases z : b ∈ R
  · rw [if_pos z, if_pos z, upd_ne (fun q => h (by rw [← q]; exact z))]
  · rw [if_neg z, if_neg z]
theorem hold_nil : g.hold (cells [] H) = g := by
  unfold Gx.hold
  have : plus (cells [] H) g.held = g.held := by
    funext b
    exact plus_none (cells_out List.not_mem_nil)
  rw [this]
end

/-! ### a list, a tuple of what slots own -/
def fzs (ds : List Dv) : List Ot := ds.map Ot.fz
def fzk (kvs : List (Key × Dv)) : List (Key × Ot) := kvs.map fun p => (p.1, Ot.fz p.2)
def otOf : Dv → Option Ot
  | .lst xs => some (.lst (fzs xs))
  | .dct kvs => some (.dct (fzk kvs))
  | _ => none
def mvA (a : AV) : M Ot := fun ρ => match a with
  | .d d => .ok (.fz d) ρ
  | .bor i => match ρ[i]? with
    | some (.mu false d) => match otOf d with
      | some t => .ok t (ρ.set i .no)
      | none => .bad
    | some (.ot t) => .ok t (ρ.set i .no)
    | some (.val d) => .ok (.fz d) ρ
    | _ => .bad
def mvL : List AV → M (List Ot)
  | [] => pure []
  | a :: r => do
    let t ← mvA a
    let ts ← mvL r
    pure (t :: ts)
section
variable {K : PySem.W.Frag} {g : Gx} {F H : Hp} {ρ : VE} {σ : L2.St}
theorem repTs_fz {ds : List Dv} {vs : List V} (h : Reps K F ds vs) : RepTs K F H (fzs ds) vs [] := by
  have : ∀ {ds : List Dv} {vs : List V}, Reps K F ds vs → RepTs K F H (fzs ds) vs [] := by
    intro ds
    induction ds with
    | nil => intro vs h; cases h; exact .nil
    | cons d ds ih =>
      intro vs h
      cases h with
      | cons r t => exact RepTs.cons (.fz r) (ih t)
  exact this h
theorem fzk_zip : ∀ (ks : List Key) (xs : List Dv), fzk (ks.zip xs) = ks.zip (fzs xs)
  | [], _ => rfl
  | _ :: _, [] => rfl
  | k :: ks, x :: xs => by
    have := fzk_zip ks xs
    unfold fzk fzs at this ⊢
    rw [List.zip_cons_cons, List.map_cons, this, List.map_cons, List.zip_cons_cons]
theorem otOf_ok {d : Dv} {o : HO} {p : Addr} {t : Ot} (h : RepO K F d o) (hp : H p = some o) (ht : otOf d = some t) : RepT K F H t (.ref p) [p] := by
  cases h with
  | lst h => cases ht; exact .lst hp (repTs_fz h)
  | @dct ks xs vs l h =>
    cases ht
    rw [fzk_zip]
    exact .dct hp (by rw [l]; unfold fzs; rw [List.length_map]) (repTs_fz h)
  | dcT l h => cases ht
theorem mvA_ok {R : List Addr} {a : AV} {v : V} {ok : Ot → VE → Prop} {ex : Er → VE → Prop} (r : Rel K (g.hold (cells R H)) F ρ σ H) (hR : ∀ a ∈ R, H a ≠ none) (h : AvOk K F σ a v) (z : RP (mvA a ρ) ok ex) :
    ∃ t S ρ', RepT K F H t v S ∧ S.Nodup ∧ (∀ a ∈ S, a ∉ R ∧ g.H0 a = none ∧ g.held a = none) ∧ Rel K (g.hold (cells (R ++ S) H)) F ρ' σ H ∧ ok t ρ' := by
  cases a with
  | d d => exact ⟨_, [], ρ, .fz h, List.nodup_nil, fun a q => (by cases q), by rw [List.append_nil]; exact r, z⟩
  | bor i =>
    unfold mvA at z
    cases e : ρ[i]? with
    | none => simp only [e] at z; exact z.elim
    | some s =>
      simp only [e] at z
      have out : ∀ {a : Addr}, (g.hold (cells R H)).held a = none → a ∉ R ∧ g.held a = none := fun {a} q => by
        obtain ⟨q1, q2⟩ := plus_is q
        refine ⟨fun m => ?_, q2⟩
        rw [cells_in m] at q1
        exact hR a m q1
      cases s with
      | no => exact z.elim
      | exn => exact z.elim
      | val d =>
        obtain ⟨u, h1, h2⟩ := r.val i d e
        have h' : σ[i]? = some (some v) := h
        rw [h'] at h1; cases h1
        exact ⟨_, [], ρ, .fz h2, List.nodup_nil, fun a q => (by cases q), by rw [List.append_nil]; exact r, z⟩
      | ot t =>
        obtain ⟨u, S, h1, h2, h3, h4, r1⟩ := r.takeOt e
        have h' : σ[i]? = some (some v) := h
        rw [h'] at h1; cases h1
        rw [hold_hold] at r1
        exact ⟨t, S, _, h2, h3, fun a m => ⟨(out (h4 a m).2).1, (h4 a m).1, (out (h4 a m).2).2⟩, r1, z⟩
      | mu b d =>
        cases b with
        | true => exact z.elim
        | false =>
          cases q : otOf d with
          | none => simp only [q] at z; exact z.elim
          | some t =>
            simp only [q] at z
            obtain ⟨p, o, h1, h2, h3, h4, r1⟩ := r.takeMu e
            have h' : σ[i]? = some (some v) := h
            rw [h'] at h1; cases h1
            have hp := r1.heldAt.1
            rw [one_cells hp, hold_hold] at r1
            refine ⟨t, [p], _, otOf_ok h2 hp q, nodup1 p, fun a m => ?_, r1, z⟩
            rw [List.mem_singleton.mp m]
            exact ⟨(out h4).1, h3, (out h4).2⟩
theorem mvL_ok : ∀ {as : List AV} {vs : List V} {R : List Addr} {ρ : VE} {ok : List Ot → VE → Prop} {ex : Er → VE → Prop}, Rel K (g.hold (cells R H)) F ρ σ H → (∀ a ∈ R, H a ≠ none) → Paired (AvOk K F σ) as vs → RP (mvL as ρ) ok ex →
    ∃ ts S ρ', RepTs K F H ts vs S ∧ S.Nodup ∧ (∀ a ∈ S, a ∉ R ∧ g.H0 a = none ∧ g.held a = none) ∧ Rel K (g.hold (cells (R ++ S) H)) F ρ' σ H ∧ ok ts ρ'
  | [], _, R, ρ, ok, ex, r, _, h, z => by
    cases h
    exact ⟨[], [], ρ, .nil, List.nodup_nil, fun a q => (by cases q), by rw [List.append_nil]; exact r, z⟩
  | a :: as, _, R, ρ, ok, ex, r, hR, h, z => by
    cases h with
    | cons ha hs =>
      unfold mvL at z
      rw [RP_bnd] at z
      obtain ⟨t, S, ρ1, h1, h2, h3, r1, z1⟩ := mvA_ok r hR ha z
      rw [RP_bnd] at z1
      obtain ⟨ts, S2, ρ2, k1, k2, k3, r2, z2⟩ := mvL_ok r1 (fun a m => by
        rcases List.mem_append.mp m with m | m
        · exact hR a m
        · exact h1.there a m) hs z1
      refine ⟨t :: ts, S ++ S2, ρ2, .cons h1 k1, List.nodup_append.mpr ⟨h2, k2, fun a ha b hb z => (k3 b hb).1 (by rw [← z]; exact List.mem_append_right _ ha)⟩, fun a m => ?_, by rw [← List.append_assoc]; exact r2, z2⟩
      rcases List.mem_append.mp m with m | m
      · exact h3 a m
      · exact ⟨fun q => (k3 a m).1 (List.mem_append_left _ q), (k3 a m).2⟩
end
section
variable {X : Cx} {W : Wh} {e : Expr} {es : List Expr} {pos : Pos}
def eLstO (m : M (List AV)) : M RV := do
  let as ← m
  let ts ← mvL as
  M.grd (ts.length ≤ sizeLine)
  pure (.ow (.lst ts))
def eTupO (m : M (List AV)) : M RV := do
  let as ← m
  let ts ← mvL as
  M.grd (ts.length ≤ sizeLine)
  pure (.ow (.tup ts))
theorem owned_new {g : Gx} {F H : Hp} {ρ : VE} {σ : L2.St} {S : List Addr} {p : Addr} {o : HO} {t : Ot} (r : Rel X.K (g.hold (cells S H)) F ρ σ H) (hS : ∀ a ∈ S, H a ≠ none ∧ g.H0 a = none ∧ g.held a = none) (nd : S.Nodup) (hp : H p = none) (ht : RepT X.K F (upd H p o) t (.ref p) (p :: S)) :
    RvOk X.K g F ρ σ (upd H p o) (.ow t) (.ref p) ∧ Rel X.K g F ρ σ (upd H p o) := by
  have hn : p ∉ S := fun q => (hS p q).1 hp
  have r1 := r.allocH (o := o) hp
  rw [one_cells (H := upd H p o) upd_same, ← cells_upd (o := o) hn, hold_hold] at r1
  have hh : g.held p = none := by
    have := r.noHeld hp
    exact (plus_is this).2
  have h0 : g.H0 p = none := r.freeH0 hp
  have sw : cells (S ++ [p]) (upd H p o) = cells (p :: S) (upd H p o) := by
    funext b
    unfold cells
    have : b ∈ S ++ [p] ↔ b ∈ p :: S := by simp [or_comm]
    by_cases q : b ∈ S ++ [p]
    · rw [if_pos q, if_pos (this.mp q)]
    · rw [if_neg q, if_neg (fun z => q (this.mpr z))]
  rw [sw] at r1
  have all : ∀ a ∈ p :: S, g.H0 a = none ∧ g.held a = none := fun a m => by
    rcases List.mem_cons.mp m with rfl | m
    · exact ⟨h0, hh⟩
    · exact (hS a m).2
  exact ⟨⟨p :: S, ht, List.nodup_cons.mpr ⟨hn, nd⟩, all, r1⟩, r1.unhold fun b u q => (all b (cells_mem q)).2⟩
theorem se_lstO {m : M (List AV)} (h : SA X W es m) : SE X W (.List es pos) (eLstO m) := by
  obtain ⟨t, pt, qt⟩ := h.ex
  refine ⟨_, pe_lst pt, fun g hw F ρ σ H Q rel z => ?_⟩
  unfold eLstO at z
  rw [RP_bnd] at z
  refine qt g hw F ρ σ H _ rel (z.imp (fun as ρ1 z1 => ?_) fun _ _ k => k)
  intro vs F1 H1 e1 rel1 ok1
  rw [RP_bnd] at z1
  obtain ⟨ts, S, ρ2, k1, k2, k3, r2, z2⟩ := mvL_ok (R := []) (by rw [hold_nil]; exact rel1) (fun _ q => by cases q) ok1 z1
  rw [RP_bnd] at z2
  obtain ⟨hl, z3⟩ := RP_grd z2
  refine ⟨by rw [← k1.length]; exact hl, fun p hp => ?_⟩
  rw [List.nil_append] at r2
  obtain ⟨w1, w2⟩ := owned_new r2 (fun a m => ⟨k1.there a m, (k3 a m).2⟩) k2 hp (o := .lst vs) (.lst upd_same (k1.frame (Ext.refl F1) fun a m => upd_ne (fun q => k1.there a m (by rw [q]; exact hp))))
  exact z3 (.ref p) F1 _ e1 w2 w1
theorem se_tupO {m : M (List AV)} {x1} (h : SA X W es m) : SE X W (.Tuple es x1 pos) (eTupO m) := by
  obtain ⟨t, pt, qt⟩ := h.ex
  refine ⟨_, pe_tup pt, fun g hw F ρ σ H Q rel z => ?_⟩
  unfold eTupO at z
  rw [RP_bnd] at z
  refine qt g hw F ρ σ H _ rel (z.imp (fun as ρ1 z1 => ?_) fun _ _ k => k)
  intro vs F1 H1 e1 rel1 ok1
  rw [RP_bnd] at z1
  obtain ⟨ts, S, ρ2, k1, k2, k3, r2, z2⟩ := mvL_ok (R := []) (by rw [hold_nil]; exact rel1) (fun _ q => by cases q) ok1 z1
  rw [RP_bnd] at z2
  obtain ⟨hl, z3⟩ := RP_grd z2
  refine ⟨by rw [← k1.length]; exact hl, fun p hp => ?_⟩
  rw [List.nil_append] at r2
  obtain ⟨w1, w2⟩ := owned_new r2 (fun a m => ⟨k1.there a m, (k3 a m).2⟩) k2 hp (o := .tup vs) (.tup upd_same (k1.frame (Ext.refl F1) fun a m => upd_ne (fun q => k1.there a m (by rw [q]; exact hp))))
  exact z3 (.ref p) F1 _ e1 w2 w1
end
end P0
end
section
set_option Elab.async false
set_option linter.all false
set_option maxRecDepth 100000
set_option maxHeartbeats 4000000
/-! P0: a pure look at all that is owned; a place within an owned tree. -/
namespace P0
open PySem PySem.Spec L2
open PyProof.Rows hiding St

/-! ### all seen as frozen -/
def frzS : Sl → Sl
  | .mu _ d => .val d
  | .ot t => .val t.er
  | s => s
def frzE (ρ : VE) : VE := ρ.map frzS
theorem RepO.at' {K : PySem.W.Frag} {F : Hp} {d : Dv} {o : HO} {p : Addr} (h : RepO K F d o) (hp : F p = some o) : Rep K F d (.ref p) := by
  cases h with
  | lst h => exact .lst hp h
  | dct l h => exact .dct hp l h
  | dcT l h => exact .dcT hp l h
section
variable {K : PySem.W.Frag} {g : Gx} {F F' H H' : Hp} {ρ : VE} {σ : L2.St}
theorem Rel.look (r : Rel K g F ρ σ H) : ∃ F2, Ext F F2 ∧ Rel K ⟨H, F2, [], g.held, g.exa⟩ F2 (frzE ρ) σ H := by
  obtain ⟨Rs, w⟩ := r.own
  have inR : ∀ {i : Nat} {R : List Addr} {a : Addr}, Rs[i]? = some R → a ∈ R → a ∈ Rs.flatten := fun {i R a} hR ha => List.mem_flatten.mpr ⟨R, List.mem_of_getElem? hR, ha⟩
  have ofR : ∀ {a : Addr}, a ∈ Rs.flatten → F a = none ∧ g.held a = none := fun {a} m => by
    obtain ⟨R, hR, ha⟩ := List.mem_flatten.mp m
    obtain ⟨i, hi, e⟩ := List.getElem_of_mem hR
    have hg : Rs[i]? = some R := by rw [List.getElem?_eq_getElem hi, e]
    exact ⟨(w.out i R hg a ha).1, (w.out i R hg a ha).2.1⟩
  have eF : Ext F (plus (cells Rs.flatten H) F) := ext_plus fun b o e => (ofR (cells_mem e)).1
  have at2 : ∀ {i : Nat} {R : List Addr} {a : Addr} {o : HO}, Rs[i]? = some R → a ∈ R → H a = some o → plus (cells Rs.flatten H) F a = some o := fun {i R a o} hR ha e => plus_some (cells_at (inR hR ha) e)
  refine ⟨plus (cells Rs.flatten H) F, eF, { ext := fun b o e => ?_, f0 := Ext.refl _, new := fun b h => .inl h, keep := fun b o h _ => h, dom := fun b h => h, io := fun i p h => (by cases h), own := ⟨List.replicate ρ.length [], ?_⟩ }⟩
  · rcases plus_or e with e | ⟨_, e⟩
    · have m := cells_mem e
      rw [cells_in m] at e; exact e
    · exact r.ext b o e
  · refine { len := by unfold frzE; rw [List.length_map]; exact w.len, lenR := by unfold frzE; rw [List.length_map, List.length_replicate], ok := fun i s x R h1 h2 h3 => ?_, nd := fun i R hR => ?_, dis := fun i j R S _ hR _ a ha => ?_, out := fun i R hR a ha => ?_, hel := fun b o e => ?_ }
    · obtain rfl : R = [] := by rw [List.getElem?_replicate] at h3; split at h3 <;> cases h3; rfl
      unfold frzE at h1
      rw [List.getElem?_map] at h1
      cases q : ρ[i]? with
      | none => rw [q] at h1; cases h1
      | some s0 =>
        rw [q] at h1
        obtain rfl := Option.some.inj h1
        obtain ⟨x', R', k1, k2, k3⟩ := w.at' q
        rw [h2] at k1; cases k1
        cases s0 with
        | no => rfl
        | val d => obtain ⟨⟨v, a1, a2⟩, _⟩ := k3; exact ⟨⟨v, a1, a2.mono eF⟩, rfl⟩
        | exn => obtain ⟨a, _⟩ := k3; exact ⟨a, rfl⟩
        | mu b d =>
          obtain ⟨p, o, a1, a2, a3, rfl, _⟩ := k3
          exact ⟨⟨.ref p, a1, (a3.mono eF).at' (at2 k2 List.mem_cons_self a2)⟩, rfl⟩
        | ot t =>
          obtain ⟨v, a1, a2, _⟩ := k3
          refine ⟨⟨v, a1, a2.rep eF fun a ha => ?_⟩, rfl⟩
          obtain ⟨u, e⟩ := Option.ne_none_iff_exists'.mp (a2.there a ha)
          rw [e]; exact at2 k2 ha e
    · rw [List.getElem?_replicate] at hR; split at hR <;> cases hR; exact List.nodup_nil
    · rw [List.getElem?_replicate] at hR; split at hR <;> cases hR; cases ha
    · rw [List.getElem?_replicate] at hR; split at hR <;> cases hR; cases ha
    · obtain ⟨h1, h2⟩ := w.hel b o e
      refine ⟨h1, ?_⟩
      rw [plus_none (cells_out fun m => ?_)]
      · exact h2
      · have := (ofR m).2
        have e' : g.held b = some o := e
        rw [this] at e'; cases e'
/-- nothing that stood was changed -/
theorem Rel.grow (r : Rel K g F ρ σ H) (k : ∀ b o, H b = some o → H' b = some o) : Rel K g F ρ σ H' where
  ext := fun b o e => k b o (r.ext b o e)
  f0 := r.f0
  new := r.new
  keep := fun b o e n => k b o (r.keep b o e n)
  dom := fun b e => by
    obtain ⟨u, q⟩ := Option.ne_none_iff_exists'.mp (r.dom b e)
    rw [k b u q]; exact Option.some_ne_none _
  io := r.io
  own := by
    obtain ⟨Rs, w⟩ := r.own
    refine ⟨Rs, w.frame (Ext.refl F) (fun i R hR a ha => ?_) (fun i R hR a ha => (w.out i R hR a ha).1) fun b o e => ⟨k b o (w.hel b o e).1, (w.hel b o e).2⟩⟩
    obtain ⟨u, q⟩ := Option.ne_none_iff_exists'.mp (w.there hR ha)
    rw [q]; exact k a u q
theorem Rep.unfrz {d : Dv} {v : V} (h : Rep K F' d v) (f : flatD d = true) : Rep K F d v := by
  cases h with
  | non => exact .non
  | bl b => exact .bl b
  | int i => exact .int i
  | str x => exact .str x
  | cl v => cases f
  | lst a b => cases f
  | rls a b => cases f
  | tup a b => cases f
  | dct a b => cases f
  | dcT a b => cases f
  | ins a b => cases f
end
def WOk (W : Wh) : Prop := ∀ (g : Gx) (F2 H : Hp), Ext g.F0 F2 → W.p g → W.p ⟨H, F2, [], g.held, g.exa⟩
theorem wok_of {w : WX} : WOk ⟨w, fun _ => True⟩ := fun _ _ _ _ _ => True.intro
theorem wok_suite {X : Cx} {a : Addr} {er : Er} {cls : Value} {d : Option Addr} : WOk (WS X a er cls d) := fun _ _ _ e h => ⟨h.1, h.2.mono e⟩
def flatRV : RV → Bool
  | .d d => flatD d
  | _ => false
def rd (m : M RV) : M RV := fun ρ => match m (frzE ρ) with
  | .ok r _ => if flatRV r = true then .ok r ρ else m ρ
  | _ => m ρ
def rdT (m : M Bool) : M Bool := fun ρ => match m (frzE ρ) with
  | .ok b _ => .ok b ρ
  | _ => m ρ
section
variable {X : Cx} {W : Wh} {e : Expr}
theorem SE.rd {m : M RV} (h : SE X W e m) (hw : WOk W) : SE X W e (rd m) := by
  obtain ⟨t, p, q⟩ := h.ex
  refine ⟨t, p, fun g hp F ρ σ H Q r z => ?_⟩
  unfold P0.rd at z
  cases hm : m (frzE ρ) with
  | bad => rw [hm] at z; exact q g hp F ρ σ H Q r z
  | exc er ρ1 => rw [hm] at z; exact q g hp F ρ σ H Q r z
  | ok rv ρ1 =>
    rw [hm] at z
    dsimp only at z
    split at z
    · rename_i hf
      obtain ⟨F2, e2, r2⟩ := r.look
      refine q _ (hw g F2 H (r.f0.trans e2) hp) F2 (frzE ρ) σ H Q r2 ?_
      rw [hm]
      intro v F' H' e3 r3 ok
      cases rv with
      | d d => exact z v F H' (Ext.refl F) (r.grow fun b o k => r3.keep b o k fun i => List.not_mem_nil) (Rep.unfrz ok hf)
      | fr d => cases hf
      | bor i => cases hf
      | ow t => cases hf
    · exact q g hp F ρ σ H Q r z
theorem STt.rd {m : M Bool} (h : STt X W e m) (hw : WOk W) : STt X W e (rdT m) := by
  obtain ⟨t, p, q⟩ := h.ex
  refine ⟨t, p, fun g hp F ρ σ H Q r z => ?_⟩
  unfold rdT at z
  cases hm : m (frzE ρ) with
  | bad => rw [hm] at z; exact q g hp F ρ σ H Q r z
  | exc er ρ1 => rw [hm] at z; exact q g hp F ρ σ H Q r z
  | ok b ρ1 =>
    rw [hm] at z
    obtain ⟨F2, e2, r2⟩ := r.look
    refine q _ (hw g F2 H (r.f0.trans e2) hp) F2 (frzE ρ) σ H Q r2 ?_
    rw [hm]
    intro F' H' e3 r3
    exact z F H' (Ext.refl F) (r.grow fun b o k => r3.keep b o k fun i => List.not_mem_nil)
end

/-! ### simple ints -/
structure SX (X : Cx) (e : Expr) (f : VE → Option Int) : Prop where
  ex : ∃ t, PE X e t ∧ ∀ g F ρ σ H Q k, Rel X.K g F ρ σ H → f ρ = some k → Q (V.int k) H → t σ H Q
def xC (k : Int) : VE → Option Int := fun _ => some k
def xV (i : Nat) : VE → Option Int := fun ρ => match (ρ[i]? : Option Sl) with
  | some (.val (.int k)) => some k
  | _ => none
def x2 (f : Int → Int → Int) (a b : VE → Option Int) : VE → Option Int := fun ρ => do
  let x ← a ρ
  let y ← b ρ
  pure (f x y)
def x1 (f : Int → Int) (a : VE → Option Int) : VE → Option Int := fun ρ => do
  let x ← a ρ
  pure (f x)
section
variable {X : Cx} {W : Wh} {a b e : Expr} {pos : Pos} {fa fb : VE → Option Int}
theorem sx_int {i j} : SX X (.Constant (.int i) j pos) (xC i) := ⟨_, pe_int, fun g F ρ σ H Q k r h q => by cases h; exact q⟩
theorem sx_var (i : Nat) {x : Str} (hN : X.N[i]? = some x := by rfl) (hv : Vis X.env.scope x := by first | exact Or.inl rfl | exact Or.inr (Or.inl rfl) | exact Or.inr (Or.inr rfl)) (hd : (x == ("__debug__" : Str)) = false := by decide)
    (hcd : (x == ("__classdict__" : Str)) = false := by decide) : SX X (.Name x pos) (xV i) := by
  refine ⟨_, pv i hN hv hd hcd, fun g F ρ σ H Q k r h q => ?_⟩
  unfold xV at h
  split at h
  · rename_i j e
    cases h
    obtain ⟨v, h1, h2⟩ := r.val i _ e
    cases h2
    exact ⟨_, h1, q⟩
  · cases h
theorem sx_op {op : Operator} {f : Int → Int → Int} (ho : OpR X (binaryOp op) (rI0 fun i j => .int (f i j))) (ha : SX X a fa) (hb : SX X b fb) : SX X (.BinOp a op b pos) (x2 f fa fb) := by
  obtain ⟨ta, pa, qa⟩ := ha.ex
  obtain ⟨tb, pb, qb⟩ := hb.ex
  refine ⟨_, pe_op ho pa pb, fun g F ρ σ H Q k r h q => ?_⟩
  unfold x2 at h
  cases h1 : fa ρ with
  | none => rw [h1] at h; cases h
  | some x =>
    cases h2 : fb ρ with
    | none => rw [h1, h2] at h; cases h
    | some y =>
      rw [h1, h2] at h
      cases h
      exact qa g F ρ σ H _ x r h1 (qb g F ρ σ H _ y r h2 ⟨x, y, rfl, rfl, q⟩)
theorem sx_neg (ha : SX X a fa) : SX X (.UnaryOp .USub a pos) (x1 (fun i => -i) fa) := by
  obtain ⟨ta, pa, qa⟩ := ha.ex
  refine ⟨_, pe_un un_neg pa, fun g F ρ σ H Q k r h q => ?_⟩
  unfold x1 at h
  cases h1 : fa ρ with
  | none => rw [h1] at h; cases h
  | some x =>
    rw [h1] at h
    cases h
    exact qa g F ρ σ H _ x r h1 ⟨x, rfl, q⟩
end

/-! ### a place -/
def chn (K : PySem.W.Frag) (H : Hp) : V → List Int → V → Prop
  | v, [], w => v = w
  | v, k :: π, w => ∃ a vs x, v = .ref a ∧ (SqL K H a vs ∨ SqT K H a vs) ∧ atI vs k = some x ∧ chn K H x π w
theorem chn_snoc {K : PySem.W.Frag} {H : Hp} {k : Int} : ∀ {π : List Int} {v w : V}, chn K H v (π ++ [k]) w ↔ ∃ x, chn K H v π x ∧ chn K H x [k] w
  | [], v, w => ⟨fun h => ⟨v, rfl, h⟩, fun ⟨x, h1, h2⟩ => by cases h1; exact h2⟩
  | j :: π, v, w => by
    constructor
    · rintro ⟨a, vs, x, h1, h2, h3, h4⟩
      obtain ⟨y, k1, k2⟩ := chn_snoc.mp h4
      exact ⟨y, ⟨a, vs, x, h1, h2, h3, k1⟩, k2⟩
    · rintro ⟨y, ⟨a, vs, x, h1, h2, h3, k1⟩, k2⟩
      exact ⟨a, vs, x, h1, h2, h3, chn_snoc.mpr ⟨y, k1, k2⟩⟩
structure SP (X : Cx) (i : Nat) (e : Expr) (p : VE → Option (List Int)) : Prop where
  ex : ∃ t, PE X e t ∧ ∀ g F ρ σ H Q π v w, Rel X.K g F ρ σ H → p ρ = some π → σ[i]? = some (some v) → chn X.K H v π w → Q w H → t σ H Q
def pN : VE → Option (List Int) := fun _ => some []
def pS (p : VE → Option (List Int)) (f : VE → Option Int) : VE → Option (List Int) := fun ρ => do
  let π ← p ρ
  let k ← f ρ
  pure (π ++ [k])
section
variable {X : Cx} {W : Wh} {a b e : Expr} {pos : Pos} {p : VE → Option (List Int)} {f : VE → Option Int}
theorem sp_name (i : Nat) {x : Str} (hN : X.N[i]? = some x := by rfl) (hv : Vis X.env.scope x := by first | exact Or.inl rfl | exact Or.inr (Or.inl rfl) | exact Or.inr (Or.inr rfl)) (hd : (x == ("__debug__" : Str)) = false := by decide)
    (hcd : (x == ("__classdict__" : Str)) = false := by decide) : SP X i (.Name x pos) pN :=
  ⟨_, pv i hN hv hd hcd, fun g F ρ σ H Q π v w r h1 h2 h3 q => by cases h1; cases h3; exact ⟨v, h2, q⟩⟩
theorem sp_ix {i : Nat} (ha : SP X i a p) (hb : SX X b f) (hs : PlainIx b) : SP X i (.Subscript a b pos) (pS p f) := by
  obtain ⟨ta, pa, qa⟩ := ha.ex
  obtain ⟨tb, pb, qb⟩ := hb.ex
  refine ⟨_, pe_ix ix_seq pa pb hs, fun g F ρ σ H Q π v w r h1 h2 h3 q => ?_⟩
  unfold pS at h1
  cases k1 : p ρ with
  | none => rw [k1] at h1; cases h1
  | some π0 =>
    cases k2 : f ρ with
    | none => rw [k1, k2] at h1; cases h1
    | some k =>
      rw [k1, k2] at h1
      cases h1
      obtain ⟨x, c1, a', vs, y, rfl, hsq, hat, rfl⟩ := chn_snoc.mp h3
      refine qa g F ρ σ H _ π0 v _ r k1 h2 c1 (qb g F ρ σ H _ k r k2 ?_)
      rcases hsq with hsq | hsq
      · exact .inl ⟨a', vs, k, y, rfl, rfl, hsq, hat, q⟩
      · exact .inr (.inl ⟨a', vs, k, y, rfl, rfl, hsq, hat, q⟩)
end
/-- what stands there -/
def subT : Ot → List Int → Option Ot
  | t, [] => some t
  | .lst ts, k :: π => (atI ts k).bind fun t => subT t π
  | .tup ts, k :: π => (atI ts k).bind fun t => subT t π
  | _, _ :: _ => none
/-- something else is put there -/
def putT : Ot → List Int → Ot → Ot
  | _, [], u => u
  | .lst ts, k :: π, u => match ixN ts.length k with
    | some j => .lst (ts.set j (putT ((ts[j]?).getD (.lst [])) π u))
    | none => .lst ts
  | .tup ts, k :: π, u => match ixN ts.length k with
    | some j => .tup (ts.set j (putT ((ts[j]?).getD (.lst [])) π u))
    | none => .tup ts
  | t, _ :: _, _ => t
section
variable {K : PySem.W.Frag} {F H : Hp}
theorem RepTs.focus : ∀ {ts : List Ot} {vs : List V} {R : List Addr} {j : Nat} {t : Ot}, RepTs K F H ts vs R → R.Nodup → ts[j]? = some t → ∃ v S, vs[j]? = some v ∧ RepT K F H t v S ∧ S.Nodup ∧ (∀ a ∈ S, a ∈ R) ∧
    ∀ F' H' u, Ext F F' → (∀ a ∈ R, a ∉ S → H' a = H a) → RepT K F' H' u v S → RepTs K F' H' (ts.set j u) vs R
  | _, _, _, _, _, .nil, _, h => by simp at h
  | _, _, _, 0, _, .cons (R := R) (S := S) r t, nd, h => by
    simp only [List.getElem?_cons_zero, Option.some.injEq] at h
    subst h
    obtain ⟨n1, n2, n3⟩ := List.nodup_append.mp nd
    refine ⟨_, R, rfl, r, n1, fun a ha => List.mem_append_left _ ha, fun F' H' u e k ru => ?_⟩
    rw [List.set_cons_zero]
    exact .cons ru (t.frame e fun a ha => k a (List.mem_append_right _ ha) fun q => n3 a q a ha rfl)
  | _, _, _, j + 1, _, .cons (R := R) (S := S) r t, nd, h => by
    rw [List.getElem?_cons_succ] at h
    obtain ⟨n1, n2, n3⟩ := List.nodup_append.mp nd
    obtain ⟨v, T, k1, k2, k3, k4, k5⟩ := RepTs.focus t n2 h
    refine ⟨v, T, by rw [List.getElem?_cons_succ]; exact k1, k2, k3, fun a ha => List.mem_append_right _ (k4 a ha), fun F' H' u e k ru => ?_⟩
    rw [List.set_cons_succ]
    exact .cons (r.frame e fun a ha => k a (List.mem_append_left _ ha) fun q => n3 a ha a (k4 a q) rfl) (k5 F' H' u e (fun a ha hn => k a (List.mem_append_right _ ha) hn) ru)
theorem atI_some {α : Type} {l : List α} {k : Int} {x : α} (h : atI l k = some x) : ∃ j, ixN l.length k = some j ∧ l[j]? = some x := by
  unfold atI at h
  cases q : ixN l.length k with
  | none => rw [q] at h; cases h
  | some j => rw [q] at h; exact ⟨j, rfl, h⟩
theorem RepT.focus : ∀ {π : List Int} {t u : Ot} {v : V} {R : List Addr}, RepT K F H t v R → R.Nodup → subT t π = some u → ∃ w S, chn K H v π w ∧ RepT K F H u w S ∧ S.Nodup ∧ (∀ a ∈ S, a ∈ R) ∧
    ∀ F' H' u', Ext F F' → (∀ a ∈ R, a ∉ S → H' a = H a) → RepT K F' H' u' w S → RepT K F' H' (putT t π u') v R
  | [], t, u, v, R, r, nd, h => by
    unfold subT at h
    cases h
    exact ⟨v, R, rfl, r, nd, fun a ha => ha, fun F' H' u' _ _ k => by unfold putT; exact k⟩
  | k :: π, _, u, _, _, .fz h', nd, h => by unfold subT at h; cases h
  | k :: π, _, u, _, _, .dct h1 h2 h3, nd, h => by unfold subT at h; cases h
  | k :: π, _, u, _, _, .lst (a := a) (xs := xs) (vs := vs) (R := R) ha hs, nd, h => by
    unfold subT at h
    cases q : atI xs k with
    | none => rw [q] at h; cases h
    | some t =>
      rw [q] at h
      obtain ⟨j, hj, hjt⟩ := atI_some q
      obtain ⟨n1, n2⟩ := List.nodup_cons.mp nd
      obtain ⟨x, S1, k1, k2, k3, k4, k5⟩ := RepTs.focus hs n2 hjt
      obtain ⟨w, S, c1, c2, c3, c4, c5⟩ := RepT.focus (π := π) k2 k3 h
      refine ⟨w, S, ⟨a, vs, x, rfl, .inl (SqL.of ha), by unfold atI; rw [← hs.length, hj]; exact k1, c1⟩, c2, c3, fun b hb => List.mem_cons_of_mem _ (k4 b (c4 b hb)), fun F' H' u' e k ru => ?_⟩
      unfold putT
      rw [hj]
      refine .lst ((k a List.mem_cons_self fun q => n1 (k4 a (c4 a q))).trans ha) (k5 F' H' _ e (fun b hb hn => k b (List.mem_cons_of_mem _ hb) fun q => hn (c4 b q)) ?_)
      rw [hjt]
      exact c5 F' H' u' e (fun b hb hn => k b (List.mem_cons_of_mem _ (k4 b hb)) hn) ru
  | k :: π, _, u, _, _, .tup (a := a) (xs := xs) (vs := vs) (R := R) ha hs, nd, h => by
    unfold subT at h
    cases q : atI xs k with
    | none => rw [q] at h; cases h
    | some t =>
      rw [q] at h
      obtain ⟨j, hj, hjt⟩ := atI_some q
      obtain ⟨n1, n2⟩ := List.nodup_cons.mp nd
      obtain ⟨x, S1, k1, k2, k3, k4, k5⟩ := RepTs.focus hs n2 hjt
      obtain ⟨w, S, c1, c2, c3, c4, c5⟩ := RepT.focus (π := π) k2 k3 h
      refine ⟨w, S, ⟨a, vs, x, rfl, .inr (SqT.of ha), by unfold atI; rw [← hs.length, hj]; exact k1, c1⟩, c2, c3, fun b hb => List.mem_cons_of_mem _ (k4 b (c4 b hb)), fun F' H' u' e k ru => ?_⟩
      unfold putT
      rw [hj]
      refine .tup ((k a List.mem_cons_self fun q => n1 (k4 a (c4 a q))).trans ha) (k5 F' H' _ e (fun b hb hn => k b (List.mem_cons_of_mem _ hb) fun q => hn (c4 b q)) ?_)
      rw [hjt]
      exact c5 F' H' u' e (fun b hb hn => k b (List.mem_cons_of_mem _ (k4 b hb)) hn) ru
end
mutual
theorem RepT.uniq {K : PySem.W.Frag} {F F' H : Hp} : ∀ {t : Ot} {v : V} {R S : List Addr}, RepT K F H t v R → RepT K F' H t v S → R = S
  | _, _, _, _, .fz _, h => by cases h; rfl
  | _, _, _, _, .lst h hs, k => by
    cases k with
    | lst h' hs' =>
      rw [h] at h'; cases h'
      rw [RepTs.uniq hs hs']
  | _, _, _, _, .tup h hs, k => by
    cases k with
    | tup h' hs' =>
      rw [h] at h'; cases h'
      rw [RepTs.uniq hs hs']
  | _, _, _, _, .dct (a := a) (ks := ks) (xs := xs) (vs := vs) h l hs, k => by
    generalize ht : Ot.dct (ks.zip xs) = t at k
    cases k with
    | fz _ => cases ht
    | lst _ _ => cases ht
    | tup _ _ => cases ht
    | @dct _ ks' xs' vs' S h' l' hs' =>
      rw [h] at h'
      have e1 : ks.zip xs = ks'.zip xs' := Ot.dct.inj ht
      have e2 : ks.zip vs = ks'.zip vs' := HO.dK.inj (Option.some.inj h')
      have lv := hs.length
      have lv' := hs'.length
      have x1 : xs = xs' := by
        have := congrArg (List.map Prod.snd) e1
        rw [List.map_snd_zip (by omega), List.map_snd_zip (by omega)] at this
        exact this
      have x2 : vs = vs' := by
        have := congrArg (List.map Prod.snd) e2
        rw [List.map_snd_zip (by omega), List.map_snd_zip (by omega)] at this
        exact this
      subst x1 x2
      rw [RepTs.uniq hs hs']
theorem RepTs.uniq {K : PySem.W.Frag} {F F' H : Hp} : ∀ {ts : List Ot} {vs : List V} {R S : List Addr}, RepTs K F H ts vs R → RepTs K F' H ts vs S → R = S
  | _, _, _, _, .nil, h => by cases h; rfl
  | _, _, _, _, .cons r t, h => by
    cases h with
    | cons r' t' => rw [RepT.uniq r r', RepTs.uniq t t']
end
/-- a slot's tree is changed within its cells -/
theorem Rel.writeOt {K : PySem.W.Frag} {g : Gx} {F H : Hp} {ρ : VE} {σ : L2.St} {i : Nat} {t t' : Ot} {v : V} {a : Addr} {o : HO} (r : Rel K g F ρ σ H) (hi : ρ[i]? = some (Sl.ot t)) (hs : σ[i]? = some (some v))
    (h : ∀ R, RepT K F H t v R → R.Nodup → a ∈ R ∧ RepT K F (upd H a o) t' v R) : Rel K g F (ρ.set i (Sl.ot t')) σ (upd H a o) := by
  obtain ⟨Rs, w⟩ := r.own
  obtain ⟨x, R, h1, h2, v', rfl, h4, h5⟩ := w.at' hi
  rw [hs] at h1; cases h1
  obtain ⟨ha, ht⟩ := h R h4 (w.nd i R h2)
  have hout := w.out i R h2
  have hd : ∀ (j : Nat) (S : List Addr), (Rs.set i [])[j]? = some S → ∀ b ∈ S, b ∉ R := fun j S hS b hb q => by
    rcases get_set hS with ⟨_, y⟩ | ⟨y, hS'⟩
    · subst y; cases hb
    · exact w.dis i j R S y h2 hS' b q hb
  have w1 := (w.drop i).frame (H' := upd H a o) (Ext.refl F) (fun j S hS b hb => upd_ne fun z => hd j S hS b hb (by rw [z]; exact ha)) (fun j S hS b hb => ((w.drop i).out j S hS b hb).1) fun c u e => by
    obtain ⟨a1, a2⟩ := w.hel c u e
    exact ⟨by rw [upd_ne (fun z => by rw [z, (hout a ha).2.1] at e; cases e)]; exact a1, a2⟩
  have w2 := w1.set i (s' := .ot t') (x' := some v) (R' := R) ⟨v, rfl, ht, h5⟩ (w.nd i R h2) (fun j S z hS b hb hb' => hd j S hS b hb' hb) hout
  rw [List.set_set, List.set_set, set_self hs] at w2
  have hF := (hout a ha).1
  have h0 := h5 a ha
  exact { ext := fun c u e => by rw [upd_ne (ne_of_none e hF)]; exact r.ext c u e, f0 := r.f0, new := r.new, keep := fun c u e n => by rw [upd_ne (ne_of_none e h0)]; exact r.keep c u e n, dom := fun b e => (by
    by_cases z : b = a
    · rw [z, upd_same]; exact Option.some_ne_none _
    · rw [upd_ne z]; exact r.dom b e), io := fun j c hc => (by
    obtain ⟨k1, e, k2⟩ := r.io j c hc
    have z : i ≠ j := fun z => by subst z; rw [hi] at k2; cases k2
    exact ⟨k1, e, by rw [List.getElem?_set_ne z]; exact k2⟩), own := ⟨_, w2⟩ }
def getO (i : Nat) : M Ot := fun ρ => match (ρ[i]? : Option Sl) with
  | some (.ot t) => .ok t ρ
  | some (.mu false d) => match otOf d with
    | some t => .ok t (ρ.set i (.ot t))
    | none => .bad
  | _ => .bad
theorem Rel.muOt {K : PySem.W.Frag} {g : Gx} {F H : Hp} {ρ : VE} {σ : L2.St} {i : Nat} {d : Dv} {t : Ot} (r : Rel K g F ρ σ H) (hi : ρ[i]? = some (Sl.mu false d)) (ht : otOf d = some t) : Rel K g F (ρ.set i (Sl.ot t)) σ H := by
  obtain ⟨p, o, h1, h2, h3, h4, r1⟩ := r.takeMu hi
  have hp := r1.heldAt.1
  rw [one_cells hp] at r1
  have r2 := r1.setOt (i := i) (fun e q => by rw [List.getElem?_set_self (lt_of_get hi)] at q; cases q) (otOf_ok h2 hp ht) (nodup1 p) (fun a m => by rw [List.mem_singleton.mp m]; exact ⟨h3, h4⟩)
  rw [List.set_set, set_self h1] at r2
  exact r2
theorem getO_ok {K : PySem.W.Frag} {g : Gx} {F H : Hp} {ρ : VE} {σ : L2.St} {i : Nat} {ok : Ot → VE → Prop} {ex : Er → VE → Prop} (r : Rel K g F ρ σ H) (z : RP (getO i ρ) ok ex) : ∃ t v ρ', ρ'[i]? = some (Sl.ot t) ∧ σ[i]? = some (some v) ∧ Rel K g F ρ' σ H ∧ (∀ R, RepT K F H t v R → R.Nodup → True) ∧ (∃ R, RepT K F H t v R ∧ R.Nodup) ∧ ok t ρ' := by
  unfold getO at z
  split at z
  · rename_i t e
    obtain ⟨v, R, h1, h2, h3, _⟩ := r.takeOt e
    exact ⟨t, v, ρ, e, h1, r, fun _ _ _ => True.intro, ⟨R, h2, h3⟩, z⟩
  · rename_i d e
    split at z
    · rename_i t ht
      have r1 := r.muOt e ht
      have e1 : (ρ.set i (Sl.ot t))[i]? = some (Sl.ot t) := List.getElem?_set_self (lt_of_get e)
      obtain ⟨v, R, h1, h2, h3, _⟩ := r1.takeOt e1
      exact ⟨t, v, _, e1, h1, r1, fun _ _ _ => True.intro, ⟨R, h2, h3⟩, z⟩
    · exact z.elim
  · exact z.elim
def lstT? : Ot → Option (List Ot)
  | .lst ts => some ts
  | _ => none
def WHold (W : Wh) : Prop := ∀ (g : Gx) (G : Hp), W.p g → W.p (g.hold G)
theorem wh_of {w : WX} : WHold ⟨w, fun _ => True⟩ := fun _ _ _ => True.intro
theorem wh_suite {X : Cx} {a : Addr} {er : Er} {cls : Value} {d : Option Addr} : WHold (WS X a er cls d) := fun _ _ h => h
def M.ask {α : Type} (p : VE → Option α) : M α := fun ρ => match p ρ with
  | some a => .ok a ρ
  | none => .bad
def setR (i : Nat) (s : Sl) : M Unit := fun ρ => .ok () (ρ.set i s)
def isMuIo (i : Nat) : M Unit := fun ρ => if isIo (ρ[i]? : Option Sl) = true then .bad else .ok () ρ
theorem RepTs.append {K : PySem.W.Frag} {F H : Hp} : ∀ {xs ys : List Ot} {vs us : List V} {R S : List Addr}, RepTs K F H xs vs R → RepTs K F H ys us S → RepTs K F H (xs ++ ys) (vs ++ us) (R ++ S)
  | _, _, _, _, _, _, .nil, h => h
  | _, _, _, _, _, _, .cons r t, h => by
    rw [List.append_assoc]
    exact .cons r (t.append h)
theorem lstT?_eq {t : Ot} {ts : List Ot} (h : lstT? t = some ts) : t = .lst ts := by
  cases t with
  | lst xs => cases h; rfl
  | _ => cases h
section
variable {X : Cx} {W : Wh} {a b e : Expr} {pos : Pos} {p : VE → Option (List Int)}
/-- x[..].append(e), e not about x -/
def mAppP (i : Nat) (p : VE → Option (List Int)) (m : M AV) : M RV := do
  let t ← getO i
  let π ← M.ask p
  let xs ← M.opt ((subT t π).bind lstT?)
  setR i .no
  let av ← m
  let d ← ali av
  isMuIo i
  M.grd (xs.length < sizeLine)
  setR i (.ot (putT t π (.lst (xs ++ [.fz d]))))
  pure (.d .non)
theorem se_appendP (i : Nat) {call : Expr} {m : M AV} (hp : SP X i b p) (h : SF X W e m) (hW : WHold W) (pb : ∀ tb t, PE X b tb → PE X e t → PE X call (tBM X.K "list" rAppend tb (tCons t tNil))) : SE X W call (mAppP i p m) := by
  obtain ⟨tb, ptb, qtb⟩ := hp.ex
  obtain ⟨t, pt, qt⟩ := h.ex
  refine ⟨_, pb tb t ptb pt, fun g hw F ρ σ H Q rel z => ?_⟩
  unfold mAppP at z
  rw [RP_bnd] at z
  obtain ⟨T, v, ρ1, m1, m2, r1, _, _, z⟩ := getO_ok rel z
  rw [RP_bnd] at z
  unfold M.ask at z
  cases hπ : p ρ1 with
  | none => simp only [hπ] at z; exact z.elim
  | some π =>
    simp only [hπ] at z
    have z : RP ((M.opt ((subT T π).bind lstT?) >>= fun xs => setR i .no >>= fun _ => m >>= fun av => ali av >>= fun d => isMuIo i >>= fun _ => M.grd (xs.length < sizeLine) >>= fun _ => setR i (.ot (putT T π (.lst (xs ++ [.fz d])))) >>= fun _ => (pure (.d .non) : M RV)) ρ1) (okE X g F σ Q) (exE X g F W) := z
    rw [RP_bnd] at z
    obtain ⟨xs, hxs, z⟩ := RP_opt z
    obtain ⟨u, hu, hxs⟩ := Option.bind_eq_some_iff.mp hxs
    obtain rfl := lstT?_eq hxs
    rw [RP_bnd] at z
    have z : RP ((m >>= fun av => ali av >>= fun d => isMuIo i >>= fun _ => M.grd (xs.length < sizeLine) >>= fun _ => setR i (.ot (putT T π (.lst (xs ++ [.fz d])))) >>= fun _ => (pure (.d .non) : M RV)) (ρ1.set i .no)) (okE X g F σ Q) (exE X g F W) := z
    obtain ⟨v', R, n1, n2, n3, n4, rT⟩ := r1.takeOt m1
    rw [m2] at n1; cases n1
    obtain ⟨w, S, c1, c2, c3, c4, c5⟩ := RepT.focus n2 n3 hu
    refine qtb g F ρ1 σ H _ π v w r1 hπ m2 c1 ?_
    cases c2 with
    | @lst a _ vs R' ha hs =>
      refine ⟨.inl ⟨rfl, vs, SqL.of ha⟩, ?_⟩
      rw [RP_bnd] at z
      have hh : ∀ b u, cells R H b = some u → g.held b = none := fun b u e => (n4 b (cells_mem e)).2
      refine qt (g.hold (cells R H)) (hW g _ hw) F (ρ1.set i .no) σ H _ rT (z.imp (fun av ρ2 z1 => ?_) fun er ρ2 k => ?_)
      · intro y F1 H1 e1 rel1 ok1
        rw [RP_bnd] at z1
        obtain ⟨d, F2, ρ3, e2, r2, h2, z2⟩ := ali_ok rel1 ok1 z1
        rw [RP_bnd] at z2
        unfold isMuIo at z2
        split at z2
        · exact z2.elim
        · rename_i hio
          have z2 : RP ((M.grd (xs.length < sizeLine) >>= fun _ => setR i (.ot (putT T π (.lst (xs ++ [.fz d])))) >>= fun _ => (pure (.d .non) : M RV)) ρ3) (okE X g F σ Q) (exE X g F W) := z2
          rw [RP_bnd] at z2
          obtain ⟨hl, z3⟩ := RP_grd z2
          have z4 : okE X g F σ Q (.d .non) (ρ3.set i (.ot (putT T π (.lst (xs ++ [.fz d]))))) := z3
          have agree : ∀ b ∈ R, H1 b = H b := fun b hb => by
            obtain ⟨u, q⟩ := Option.ne_none_iff_exists'.mp (n2.there b hb)
            obtain ⟨Rs, w⟩ := r2.own
            rw [q]; exact (w.hel b u (plus_some (cells_at hb q))).1
          have sameC : cells R H = cells R H1 := by
            funext b
            by_cases hb : b ∈ R
            · rw [cells_in hb, cells_in hb, agree b hb]
            · rw [cells_out hb, cells_out hb]
          have n2' : RepT X.K F2 H1 T v R := n2.frame (e1.trans e2) agree
          rw [sameC] at r2
          have r3 := r2.setOt (i := i) (fun d q => hio (by rw [q]; rfl)) n2' n3 n4
          rw [set_self m2] at r3
          have hi3 : i < ρ3.length := by rw [r2.len]; exact lt_of_get m2
          have haR : a ∈ R := c4 a List.mem_cons_self
          have r4 := r3.writeOt (i := i) (t := T) (t' := putT T π (.lst (xs ++ [.fz d]))) (a := a) (o := .lst (vs ++ [y])) (List.getElem?_set_self hi3) m2 fun R2 hR2 _ => ?_
          · rw [List.set_set] at r4
            exact ⟨a, vs, y, rfl, rfl, (agree a haR).trans ha, by rw [← hs.length]; exact hl, z4 .non F2 _ (e1.trans e2) r4 .non⟩
          · obtain rfl : R2 = R := RepT.uniq hR2 n2'
            refine ⟨haR, c5 F2 _ _ (e1.trans e2) (fun b hb hn => ?_) ?_⟩
            · rw [upd_ne (fun q => hn (by rw [q]; exact List.mem_cons_self))]; exact agree b hb
            · have nd' := (List.nodup_cons.mp c3).1
              have hs' : RepTs X.K F2 (upd H1 a (.lst (vs ++ [y]))) xs vs R' := hs.frame (e1.trans e2) fun b hb => by
                rw [upd_ne (fun q => nd' (by rw [← q]; exact hb))]
                exact agree b (c4 b (List.mem_cons_of_mem _ hb))
              have := hs'.append (.cons (.fz h2) .nil)
              rw [List.append_nil, List.append_nil] at this
              exact .lst upd_same this
      · intro cls dd σ' F' H' e1 rx ek
        exact k cls dd σ' F' H' e1 (rx.unhold hh) ek
end
end P0
end
section
set_option Elab.async false
set_option linter.all false
set_option maxRecDepth 100000
set_option maxHeartbeats 4000000
/-! P0: a call by keywords; the end of a law. -/
namespace P0
open PySem PySem.Spec L2
open PyProof.Rows hiding St

/-! ### -i -/
def pNeg : Dv → M RV
  | .int i => pure (.d (.int (-i)))
  | _ => M.bad
theorem p_neg {X : Cx} : ∀ (g : Gx) (F : Hp) (ρ : VE) (σ : L2.St) (H : Hp) (x : V) (dx : Dv) (Q : VK) (W : Wh), Rel X.K g F ρ σ H → Top X.K F H dx x → RP (pNeg dx ρ) (okE X g F σ Q) (exE X g F W) → rU (fun i => V.int (-i)) x H Q := by
  intro g F ρ σ H x dx Q W rel tx z
  unfold pNeg at z
  split at z
  · exact ⟨_, tx.int, z _ F H (Ext.refl F) rel (.int _)⟩
  · exact z.elim
section
variable {X : Cx} {W : Wh} {e : Expr} {es : List Expr} {pos p : Pos} {x : Str} {kws : List Keyword}
structure SK (X : Cx) (W : Wh) (kws : List Keyword) (m : M (List AV)) : Prop where
  ex : ∃ t, PK X kws t ∧ ∀ g, W.p g → ∀ F ρ σ H Q, Rel X.K g F ρ σ H → RP (m ρ) (okA X g F σ Q) (exE X g F W) → t σ H Q
theorem sk_nil : SK X W [] aN := ⟨tNil, pk_nil, fun g hw F ρ σ H Q rel z => z [] F H (Ext.refl F) rel .nil⟩
theorem sk_cons {m : M AV} {r : M (List AV)} {nm : Option Str} {kpos : Pos} (h : SF X W e m) (hr : SK X W kws r) : SK X W (⟨nm, e, kpos⟩ :: kws) (aC m r) := by
  obtain ⟨t, pt, qt⟩ := h.ex
  obtain ⟨u, pu, qu⟩ := hr.ex
  refine ⟨tCons t u, pk_cons pt pu, fun g hw F ρ σ H Q rel z => ?_⟩
  unfold aC at z
  rw [RP_bnd] at z
  refine qt g hw F ρ σ H _ rel (z.imp (fun a ρ1 z1 => ?_) fun _ _ k => k)
  intro v F1 H1 e1 rel1 ok1
  rw [RP_bnd] at z1
  refine qu g hw F1 ρ1 σ H1 _ rel1 (z1.imp (fun as ρ2 z2 => ?_) fun _ _ k => k.ext e1)
  intro vs F2 H2 e2 rel2 ok2
  exact z2 (v :: vs) F2 H2 (e1.trans e2) rel2 (.cons (ok1.mono e2) ok2)
/-- f(a = .., b = ..), all parameters in their order -/
def KwB (K : PySem.W.Frag) (fd : FuncData) (ps : List Str) : Prop := ∀ (s : Shared) (ws : List Value), K.In s.heap → ws.length = ps.length → BindsTo s fd ⟨[], ps.zip ws⟩ (ps.zip ws)
theorem run_fnG' {X : Cx} {k : Nat} {f : Addr} {fd : FuncData} {ps : List Str} {sp : Sp} {E : L2.St → XK} {pins : List (Addr × Obj)} {σ : L2.St} {H : Hp} {s : Shared} {Q : VK} {us : List Value} {vs : List V} {args : Args} (Fk : FnG X.prog X.w X.K X.mg X.base k f fd ps sp) (hgd : X.A.guards = some []) (hr : Room k X.A) (hb : BindsTo s fd args (ps.zip us))
    (hx : PassesAt (L2.CX X.prog X.w) X σ (E σ)) (I : Inv X pins σ H s) (r : Vals vs us) (h : sp vs H Q (E σ)) : codeAny (model X.prog X.w) X.A (.call (.ref f) args) (fun res s' => match res with
      | .ok (.ret u) => EP X pins σ Q u s'
      | .ok _ => False
      | .error e => X.xe e s') s := by
  refine codeAny_mono (Fk.run X.A X.stack s H args us vs Q (E σ) hgd hr I.env0 hb r h) fun res s' hq => ?_
  rcases res with e | fl
  · exact hx pins H s e s' I hq
  · cases fl
    case ret u => exact I.after hq
    all_goals exact hq.elim
theorem se_callKw {k n : Nat} {fa : Addr} {fd : FuncData} {ps : List Str} {φ : List Sl → R RV} {ma : M (List AV)} (G : FnG X.prog X.w X.K X.mg X.base k fa fd ps (spF X.K X.mg φ n)) (hgd : X.A.guards = some []) (hr : Room k X.A) (tk : Takes X W.w) (hm : X.mg x = some (.ref fa))
    (hk : PySem.W.keepIn X.K (.ref fa) = true) (hb : KwB X.K fd ps) (hg : Gl X x) (ha : SK X W kws ma) (hdb : (x == ("__debug__" : Str)) = false := by decide)
    (hall : (backToKw pos (keywordEach kws X.env)).all (·.1.isSome) = true := by rfl) (hks : (backToKw pos (keywordEach kws X.env)).filterMap (·.1) = ps := by rfl)
    (hpl : ((backTo pos (starEach [] X.env)).any (·.1) || (backToKw pos (keywordEach kws X.env)).any (·.1.isNone)) = false := by rfl) : SE X W (.Call (.Name x p) [] kws pos) (eCall n φ ma) := by
  obtain ⟨t, pt, qt⟩ := ha.ex
  refine ⟨fun σ H Q => t σ H fun vs H1 => spF X.K X.mg φ n vs H1 Q (WE W.w σ), ⟨fun pins s σ H Q I h => ?_⟩, fun g hw F ρ σ H Q rel z => ?_⟩
  · refine wpAny_Call_Name_kw (ld_glob I hg hm ?_ hdb)
    refine PySem.W.callWith_KW0 (h₀ := X.base) I.ok.mod.kin hk hall ?_ hpl
    refine thn (pt.run pos pins s σ H _ I h) fun ws s2 ⟨zs, H2, I2, rz, q2⟩ => ⟨I2.kIn, ?_⟩
    rw [hks, List.append_nil]
    have hl : ws.length = ps.length := by rw [← rz.length]; exact G.len _ _ _ _ q2
    refine wpAny_call (codeAny_mono (run_fnG' (E := fun σ => WE W.w σ) G hgd hr (hb s2 ws I2.kIn hl) (passAt tk σ) I2 rz q2) fun res s' hq => ?_)
    rcases res with e | fl
    · exact hq
    · cases fl
      case ret u => exact hq
      all_goals exact hq.elim
  · unfold eCall at z
    rw [RP_bnd] at z
    refine qt g hw F ρ σ H _ rel (z.imp (fun as ρ1 z1 => ?_) fun _ _ k => k)
    intro vs F1 H1 e1 rel1 ok1
    rw [RP_bnd] at z1
    obtain ⟨ds, F2, ρ2, e2, r2, h2, z2⟩ := aliL_ok rel1 ok1 z1
    rw [RP_bnd] at z2
    obtain ⟨hn, z2⟩ := RP_grd z2
    refine ⟨F2, ds, hn, r2.ext, h2, ?_⟩
    unfold kCall at z2
    cases hφ : φ (ds.map Sl.val) with
    | bad => rw [hφ] at z2; exact z2
    | exc er ρ' =>
      rw [hφ] at z2
      intro cls d F' H' c ek
      exact z2 cls d σ F' H' ((e1.trans e2).trans c.e1) (r2.called c) ek
    | ok rv ρ' =>
      rw [hφ] at z2
      intro v F' H' c rk
      exact z2 v F' H' ((e1.trans e2).trans c.e1) (r2.called c) (RvC.ok r2 (r2.called c) (r2.calledO c) rk)
/-- f() -/
theorem se_call0 {k : Nat} {fa : Addr} {fd : FuncData} {φ : List Sl → R RV} (G : FnG X.prog X.w X.K X.mg X.base k fa fd [] (spF X.K X.mg φ 0)) (hgd : X.A.guards = some []) (hr : Room k X.A) (tk : Takes X W.w) (hm : X.mg x = some (.ref fa))
    (hk : PySem.W.keepIn X.K (.ref fa) = true) (hb : Binds X.K fd [] []) (hg : Gl X x) (hdb : (x == ("__debug__" : Str)) = false := by decide) : SE X W (.Call (.Name x p) [] [] pos) (eCall 0 φ aN) := by
  refine ⟨fun σ H Q => spF X.K X.mg φ 0 [] H Q (WE W.w σ), ⟨fun pins s σ H Q I h => ?_⟩, fun g hw F ρ σ H Q rel z => ?_⟩
  · refine wpAny_Call_Name_kw (ld_glob I hg hm ?_ hdb)
    refine PySem.W.callWith_K0 I.kIn hk ?_
    exact run_fnG (E := fun σ => WE W.w σ) G hgd hr hb (passAt tk σ) I .nil h
  · unfold eCall aN at z
    rw [RP_bnd] at z
    have z1 : RP ((aliL [] >>= fun ds => M.grd (ds.length = 0) >>= fun _ => kCall (φ (ds.map Sl.val))) ρ) (okE X g F σ Q) (exE X g F W) := z
    have z2 : RP (kCall (φ []) ρ) (okE X g F σ Q) (exE X g F W) := z1
    refine ⟨F, [], rfl, rel.ext, .nil, ?_⟩
    unfold kCall at z2
    cases hφ : φ [] with
    | bad => rw [hφ] at z2; exact z2.elim
    | exc er ρ' =>
      rw [hφ] at z2
      show RP (φ []) _ _
      rw [hφ]
      intro cls d F' H' c ek
      exact z2 cls d σ F' H' c.e1 (rel.called c) ek
    | ok rv ρ' =>
      rw [hφ] at z2
      show RP (φ []) _ _
      rw [hφ]
      intro v F' H' c rk
      exact z2 v F' H' c.e1 (rel.called c) (RvC.ok rel (rel.called c) (rel.calledO c) rk)
end

/-! ### the end -/
theorem law_callG {P : Program} {w : World} {K : PySem.W.Frag} {mg mb : Str → Option Value} {k : Nat} {fa a : Addr} {fd : FuncData} {x : Str} {φ : List Sl → R RV} {s1 : Shared} {us : List Value} {ns : List Int}
    (hK : K.In s1.heap) (h1 : s1.heap.Ns mainGlobals mg) (h2 : s1.heap.Ns builtinsNs mb) (h3 : ∀ y : Str, y ≠ "__name__" → mb y = bootBuiltins y) (h4 : s1.heap.NoLimit) (h5 : s1.gens = #[])
    (h6 : s1.heap.get? a = some { cls := .type "list", data := .seq us.toArray }) (h7 : IntsAre us ns) (h8 : ns.length ≤ sizeLine) (room : Room k callerA)
    (G : ∀ base : Heap, K.In base → base.Ns mainGlobals mg → FnG P w K mg base k fa fd [x] (spF K mg φ 1)) (hbind : ∀ (s : Shared) (u : Value), BindsTo s fd ⟨[u], []⟩ [(x, u)])
    (hφ : ∃ ρ, φ [Sl.val (.rls (ns.map Dv.int))] = .ok (.d (.bl true)) ρ) :
    codeAny (model P w) callerA (.call (.ref fa) ⟨[.ref a], []⟩) (fun r s' => r = .ok (.ret (.bool true)) ∧ OldK s1.heap s'.heap ∧ s'.os = s1.os ∧ AllBare s'.gens) s1 := by
  have rv := vals_ints h7
  have hlen := h7.length
  suffices main : ∀ H : Hp, (∀ b u, H b = some u → b = a ∧ u = .frz { cls := .type "list", data := .seq us.toArray } (.lst (ns.map V.int))) → SqL K H a (ns.map V.int) → HOk P w H s1.heap → (H a ≠ none → K.lookup a = none) →
      codeAny (model P w) callerA (.call (.ref fa) ⟨[.ref a], []⟩) (fun r s' => r = .ok (.ret (.bool true)) ∧ OldK s1.heap s'.heap ∧ s'.os = s1.os ∧ AllBare s'.gens) s1 by
    cases hk : K.lookup a with
    | some o =>
      have q := hK a o hk
      rw [h6] at q; cases q
      exact main (fun _ => none) (fun _ _ q => by cases q) (.inr ⟨_, us.toArray, _, hk, rfl, rfl, rfl, by rw [List.size_toArray, hlen]; exact h8, by simpa using rv⟩) (fun b u q => by cases q) fun q => absurd rfl q
    | none =>
      refine main (one a (.frz { cls := .type "list", data := .seq us.toArray } (.lst (ns.map V.int)))) (fun b u q => ?_) (.inl (.inr ⟨_, one_same⟩)) (fun b u q => ?_) fun _ => hk
      · by_cases z : b = a
        · subst z; rw [one_same] at q; exact ⟨rfl, (Option.some.inj q).symm⟩
        · rw [one_ne z] at q; cases q
      · by_cases z : b = a
        · subst z
          rw [one_same] at q; cases q
          exact ⟨h6, by rw [List.length_map]; exact h8, us, _, rv, h6⟩
        · rw [one_ne z] at q; cases q
  intro H only hS hok hka
  have isA : ∀ {b : Addr}, H b ≠ none → b = a := fun {b} n => by
    obtain ⟨u, q⟩ := Option.ne_none_iff_exists'.mp n
    exact (only b u q).1
  have off : ∀ {b : Addr} {o : Obj} {es : Array DictEntry} {ep : Nat}, s1.heap.get? b = some o → o.data = .dict es ep → H b = none := fun {b o es ep} q d => by
    cases z : H b with
    | none => rfl
    | some u =>
      have := isA (b := b) (by rw [z]; exact Option.some_ne_none u)
      subst this
      rw [h6] at q; cases q
      cases (show Data.seq us.toArray _ = Data.dict es ep from d)
  have nsT : ∀ {b : Addr} {m : Str → Option Value}, s1.heap.Ns b m → (hidT s1.heap H).Ns b m := fun {b m} ⟨o, es, ep, q, d, r⟩ => ⟨o, es, ep, hidT_get q (off q d), d, r⟩
  have kT : K.In (hidT s1.heap H) := fun b o q => hidT_get (hK b o q) (by
    cases z : H b with
    | none => rfl
    | some u =>
      have := isA (b := b) (by rw [z]; exact Option.some_ne_none u)
      subst this
      rw [hka (by rw [z]; exact Option.some_ne_none u)] at q; cases q)
  have modT : Mod K mg (hidT s1.heap H) := ⟨kT, nsT h1, ⟨mb, nsT h2, h3⟩, let ⟨mc, q1, q2⟩ := h4; ⟨mc, nsT q1, q2⟩⟩
  have e0 : Env0 P w K mg (hidT s1.heap H) callerA [] s1 H := ⟨rfl, modT, fun b o q => of_hidT q, Nat.le_of_eq (hidT_size _ _), trivial, fun b hb => absurd hb List.not_mem_nil, hok, .of_eq h5⟩
  obtain ⟨ρ0, hφ⟩ := hφ
  have sp : spF K mg φ 1 [.ref a] H (fun v _ => v = .bl true) fun _ _ _ => False := by
    refine ⟨H, [.rls (ns.map Dv.int)], rfl, Ext.refl H, .cons (.rls hS (Reps.ints ns)) .nil, ?_⟩
    show RP (φ [Sl.val (.rls (ns.map Dv.int))]) _ _
    rw [hφ]
    intro v F' H' _ hv
    cases hv
    rfl
  refine codeAny_mono ((G _ kT (nsT h1)).run callerA [] s1 H ⟨[.ref a], []⟩ [.ref a] [.ref a] _ _ rfl room e0 (hbind s1 (.ref a)) (.cons rfl .nil) sp) fun r s' q => ?_
  rcases r with e | fl
  · obtain ⟨_, _, _, _, _, _, _, _, _, _, _, _, z⟩ := q
    exact z.elim
  · cases fl
    case ret u =>
      obtain ⟨v, H', os, bare, un, hok', r', qv⟩ := q
      obtain rfl := (show v = .bl true from qv)
      obtain rfl : u = Value.bool true := r'
      refine ⟨rfl, OldK.of_keep fun b o q => ?_, os, bare⟩
      cases z : H b with
      | none => exact un.keep b o q z (by intro y; exact absurd y List.not_mem_nil) List.not_mem_nil
      | some u =>
        obtain ⟨_, rfl⟩ := only b u z
        obtain ⟨e1, _⟩ := hok b _ z
        obtain ⟨e2, _⟩ := hok' b _ (un.frzs b _ _ z)
        rw [q] at e1; cases e1
        exact e2
    all_goals exact q.elim
theorem walk_P0 {l : PySem.W.OpenLaw} {n k : Nat} {q : Program} {loose : List Str} {XP : (Str → Option Value) → Heap → Prop} {YP : World → Heap → Prop} {d : DefRec} {K : Params → PySem.W.Frag} {x : Str} {φ : List Sl → R RV}
    (hn : l.most = some n) (hn2 : n ≤ sizeLine) (hdf : d.params.defaults = []) (hr : Room k callerA) (hY : ∀ (w : World) (h : Heap), YP w h → (K w.params).In h)
    (F : ∀ (w : World) (mg : Str → Option Value) (fa : Addr) (h : Heap), (K w.params).In h → h.Ns mainGlobals mg → mg d.name = some (.ref fa) →
      ∃ fd : FuncData, (∀ (s : Shared) (u : Value), BindsTo s fd ⟨[u], []⟩ [(x, u)]) ∧ ∀ base : Heap, (K w.params).In base → base.Ns mainGlobals mg → FnG l.prog w (K w.params) mg base k fa fd [x] (spF (K w.params) mg φ 1))
    (math : ∀ ns : List Int, ns.length ≤ n → (∀ z ∈ ns, Builtin.Int.intBits z ≤ 1048576) → ∃ ρ, φ [Sl.val (.rls (ns.map Dv.int))] = .ok (.d (.bl true)) ρ) :
    PySem.W.WalkO q loose XP YP l.row.toRowW d [] (fun f vs => PySem.call f vs) := by
  refine Att.attach_callB hn hdf fun w s0 s1 mg mb fa o pm cd doc a vs ns Gr Y ho hd hcd hmg hobj hints hlen hbits hg => ?_
  have KX := hY w _ Y
  obtain ⟨fd, hb, hF⟩ := F w mg fa _ KX Gr.T.g hmg
  exact law_callG KX Gr.T.g Gr.T.b Gr.T.builtins Gr.T.nolimit hg hobj hints (Nat.le_trans hlen hn2) hr hF hb (math ns hlen hbits)
end P0
end
section
set_option Elab.async false
set_option linter.all false
set_option maxRecDepth 100000
set_option maxHeartbeats 4000000
/-! P0, reckoning: what the bodies do, by simp. -/
namespace P0
open PySem PySem.Spec L2
open PyProof.Rows hiding St

def iz (l : List Int) : List Dv := l.map Dv.int
def bz (l : List Bool) : List Dv := l.map Dv.bl
@[simp] theorem iz_nil : iz [] = [] := rfl
@[simp] theorem iz_cons (a : Int) (l : List Int) : iz (a :: l) = .int a :: iz l := rfl
@[simp] theorem iz_length (l : List Int) : (iz l).length = l.length := by simp [iz]
@[simp] theorem bz_nil : bz [] = [] := rfl
@[simp] theorem bz_cons (a : Bool) (l : List Bool) : bz (a :: l) = .bl a :: bz l := rfl
@[simp] theorem bz_length (l : List Bool) : (bz l).length = l.length := by simp [bz]
@[simp] theorem iz_append (a b : List Int) : iz (a ++ b) = iz a ++ iz b := by simp [iz]
@[simp] theorem bz_append (a b : List Bool) : bz (a ++ b) = bz a ++ bz b := by simp [bz]
theorem iz_get (l : List Int) (i : Nat) : (iz l)[i]? = l[i]?.map Dv.int := by simp [iz]
theorem bz_get (l : List Bool) (i : Nat) : (bz l)[i]? = l[i]?.map Dv.bl := by simp [bz]
@[simp] theorem ints_iz (l : List Int) : ints? (iz l) = some l := ints?_map l
@[simp] theorem iz_isEmpty (l : List Int) : (iz l).isEmpty = l.isEmpty := by cases l <;> rfl
@[simp] theorem bz_isEmpty (l : List Bool) : (bz l).isEmpty = l.isEmpty := by cases l <;> rfl
theorem run_setS {ρ : VE} {i : Nat} {d : Dv} (h : i < ρ.length) (hn : isIo (ρ[i]? : Option Sl) = false) : setS i d ρ = .ok () (ρ.set i (.val d)) := by
  unfold setS
  obtain ⟨s, e⟩ := get_ex h
  rw [e] at hn ⊢
  cases s with
  | mu b d => cases b with
    | true => cases hn
    | false => rfl
  | _ => rfl
theorem run_setF {ρ : VE} {i : Nat} {d : Dv} (h : i < ρ.length) (hn : isIo (ρ[i]? : Option Sl) = false) : setF i d ρ = .ok () (ρ.set i (.mu false d)) := by
  unfold setF
  obtain ⟨s, e⟩ := get_ex h
  rw [e] at hn ⊢
  cases s with
  | mu b d => cases b with
    | true => cases hn
    | false => rfl
  | _ => rfl
theorem run_setO {ρ : VE} {i : Nat} {t : Ot} (h : i < ρ.length) (hn : isIo (ρ[i]? : Option Sl) = false) : setO i t ρ = .ok () (ρ.set i (.ot t)) := by
  unfold setO
  obtain ⟨s, e⟩ := get_ex h
  rw [e] at hn ⊢
  cases s with
  | mu b d => cases b with
    | true => cases hn
    | false => rfl
  | _ => rfl
@[simp] theorem isIo_no : isIo (some Sl.no) = false := rfl
@[simp] theorem isIo_val (d : Dv) : isIo (some (Sl.val d)) = false := rfl
@[simp] theorem isIo_own (d : Dv) : isIo (some (Sl.mu false d)) = false := rfl
@[simp] theorem isIo_io (d : Dv) : isIo (some (Sl.mu true d)) = true := rfl
@[simp] theorem isIo_ot (t : Ot) : isIo (some (Sl.ot t)) = false := rfl
@[simp] theorem isIo_exn : isIo (some Sl.exn) = false := rfl
/-- a list, a tuple, a list that is only read, of ints -/
inductive Seqd : Dv → List Int → Prop
  | lst (l : List Int) : Seqd (.lst (iz l)) l
  | tup (l : List Int) : Seqd (.tup (iz l)) l
  | rls (l : List Int) : Seqd (.rls (iz l)) l
theorem Seqd.walk {d : Dv} {l : List Int} (h : Seqd d l) : walk? d = some (iz l) := by cases h <;> rfl
theorem Seqd.items {d : Dv} {l : List Int} (h : Seqd d l) : items? d = some (iz l) := by cases h <;> rfl
theorem Seqd.ix {d : Dv} {l : List Int} (h : Seqd d l) (i : Int) (ρ : VE) : pIx d (.int i) ρ = match atI (iz l) i with
  | some v => .ok (.d v) ρ
  | none => .bad := by
  cases h <;> (simp only [pIx, items?, run_bind, run_opt_some]; cases atI (iz l) i <;> rfl)
theorem Seqd.len {d : Dv} {l : List Int} (h : Seqd d l) (ρ : VE) : qLen [d] ρ = .ok (.d (.int l.length)) ρ := by
  cases h <;> simp [qLen, items?]
theorem atI_iz (l : List Int) (i : Int) : atI (iz l) i = (atI l i).map Dv.int := by
  unfold atI
  rw [iz_length]
  cases ixN l.length i with
  | none => rfl
  | some j => simp [iz_get]
theorem atI_bz (l : List Bool) (i : Int) : atI (bz l) i = (atI l i).map Dv.bl := by
  unfold atI
  rw [bz_length]
  cases ixN l.length i with
  | none => rfl
  | some j => simp [bz_get]
theorem atI_at {α : Type} {l : List α} {i : Nat} (h : i < l.length) : atI l (i : Int) = some l[i] := by
  unfold atI ixN
  rw [if_pos (Int.natCast_nonneg i), if_pos (by exact_mod_cast h)]
  simp [h]
/-! ### ranges, their bounds out of sight -/
def R62 (i : Int) : Prop := -(2 ^ 62) ≤ i ∧ i < 2 ^ 62
theorem r62 {i : Int} (h1 : -1000000 ≤ i) (h2 : i ≤ 1000000) : R62 i := ⟨by omega, by omega⟩
theorem r62n {n : Nat} (h2 : n ≤ 1000000) : R62 (n : Int) := r62 (by omega) (by omega)
def rg1 : Option (List Int) → M (List Dv)
  | some [j] => do
    M.grd (-(2 ^ 62) ≤ j ∧ j < 2 ^ 62)
    pure (rng 0 j.toNat)
  | _ => M.bad
def rg2 : Option (List Int) → M (List Dv)
  | some [i, j] => do
    M.grd (-(2 ^ 62) ≤ i ∧ i < 2 ^ 62 ∧ -(2 ^ 62) ≤ j ∧ j < 2 ^ 62)
    pure (rng i (j - i).toNat)
  | _ => M.bad
theorem run_range1 (ma : M (List AV)) (ρ : VE) : iRange1 ma ρ = match ma ρ with
    | .ok as ρ1 => (match conL as ρ1 with
      | .ok ds ρ2 => rg1 (ints? ds) ρ2
      | .exc e ρ2 => .exc e ρ2
      | .bad => .bad)
    | .exc e ρ1 => .exc e ρ1
    | .bad => .bad := by
  unfold iRange1
  rw [run_bind]
  cases ma ρ with
  | ok as ρ1 =>
    simp only
    rw [run_bind]
    cases conL as ρ1 with
    | ok ds ρ2 =>
      simp only
      cases ints? ds with
      | none => rfl
      | some ns =>
        match ns with
        | [] => rfl
        | [j] => rfl
        | _ :: _ :: _ => rfl
    | exc e ρ2 => rfl
    | bad => rfl
  | exc e ρ1 => rfl
  | bad => rfl
theorem run_range2 (ma : M (List AV)) (ρ : VE) : iRange2 ma ρ = match ma ρ with
    | .ok as ρ1 => (match conL as ρ1 with
      | .ok ds ρ2 => rg2 (ints? ds) ρ2
      | .exc e ρ2 => .exc e ρ2
      | .bad => .bad)
    | .exc e ρ1 => .exc e ρ1
    | .bad => .bad := by
  unfold iRange2
  rw [run_bind]
  cases ma ρ with
  | ok as ρ1 =>
    simp only
    rw [run_bind]
    cases conL as ρ1 with
    | ok ds ρ2 =>
      simp only
      cases ints? ds with
      | none => rfl
      | some ns =>
        match ns with
        | [] => rfl
        | [j] => rfl
        | [i, j] => rfl
        | _ :: _ :: _ :: _ => rfl
    | exc e ρ2 => rfl
    | bad => rfl
  | exc e ρ1 => rfl
  | bad => rfl
theorem rg1_ok {j : Int} (h : R62 j) (ρ : VE) : rg1 (some [j]) ρ = .ok (rng 0 j.toNat) ρ := by
  show ((M.grd (-(2 ^ 62) ≤ j ∧ j < 2 ^ 62) >>= fun _ => (pure (rng 0 j.toNat) : M (List Dv))) ρ) = _
  rw [run_bind, run_grd, if_pos (show -(2 ^ 62) ≤ j ∧ j < 2 ^ 62 from h)]; rfl
theorem rg2_ok {i j : Int} (h : R62 i) (h' : R62 j) (ρ : VE) : rg2 (some [i, j]) ρ = .ok (rng i (j - i).toNat) ρ := by
  show ((M.grd (-(2 ^ 62) ≤ i ∧ i < 2 ^ 62 ∧ -(2 ^ 62) ≤ j ∧ j < 2 ^ 62) >>= fun _ => (pure (rng i (j - i).toNat) : M (List Dv))) ρ) = _
  rw [run_bind, run_grd, if_pos ⟨h.1, h.2, h'.1, h'.2⟩]; rfl
end P0
end
section
set_option Elab.async false
set_option linter.all false
set_option maxRecDepth 100000
set_option maxHeartbeats 4000000
namespace K42
open PySem PySem.Spec L2 P0
open PyProof.Rows hiding St
def topOf (i : Nat) : Stmt := PySem.Challenge.pw_rimmachines_k42_heaps_fall.main.body.getD i (.Pass ⟨0, 0, 0, 0⟩)
def inCls (s : Stmt) (j : Nat) : Stmt := match s with
  | .ClassDef _ _ _ b .. => b.getD j (.Pass ⟨0, 0, 0, 0⟩)
  | s => s
def exCls : List Str := ["RimmachinesError", "NumberError", "SizeError", "WordError", "RootError"]
def exPrs : List (Str × Str × Bool) := [("RimmachinesError", "RimmachinesError", true), ("RimmachinesError", "NumberError", false), ("RimmachinesError", "SizeError", false), ("RimmachinesError", "WordError", false), ("RimmachinesError", "RootError", false), ("NumberError", "RimmachinesError", true), ("NumberError", "NumberError", true), ("NumberError", "SizeError", false), ("NumberError", "WordError", false), ("NumberError", "RootError", false), ("SizeError", "RimmachinesError", true), ("SizeError", "NumberError", false), ("SizeError", "SizeError", true), ("SizeError", "WordError", false), ("SizeError", "RootError", false), ("WordError", "RimmachinesError", true), ("WordError", "NumberError", false), ("WordError", "SizeError", false), ("WordError", "WordError", true), ("WordError", "RootError", false), ("RootError", "RimmachinesError", true), ("RootError", "NumberError", false), ("RootError", "SizeError", false), ("RootError", "WordError", false), ("RootError", "RootError", true)]
def exFld : List (Str × Str) := [("NumberError", "number"), ("RootError", "x"), ("RootError", "y"), ("SizeError", "count")]
abbrev s_check_number : Stmt := topOf 7
abbrev N_check_number : List Str := ["number", "least", "most"]
theorem sc_check_number : FnScope N_check_number ["number", "least", "most"] (defScope s_check_number) := ⟨rfl, rfl, rfl, by decide +kernel, rfl, by decide +kernel, by decide +kernel⟩
abbrev s_check_size : Stmt := topOf 8
abbrev N_check_size : List Str := ["count", "least", "most"]
theorem sc_check_size : FnScope N_check_size ["count", "least", "most"] (defScope s_check_size) := ⟨rfl, rfl, rfl, by decide +kernel, rfl, by decide +kernel, by decide +kernel⟩
abbrev s_check_places : Stmt := topOf 11
abbrev N_check_places : List Str := ["places", "place"]
theorem sc_check_places : FnScope N_check_places ["places"] (defScope s_check_places) := ⟨rfl, rfl, rfl, by decide +kernel, rfl, by decide +kernel, by decide +kernel⟩
abbrev s_lying_on : Stmt := topOf 12
abbrev N_lying_on : List Str := ["places", "at", "near", "lying", "index", "place", "lies", "close"]
theorem sc_lying_on : FnScope N_lying_on ["places", "at"] (defScope s_lying_on) := ⟨rfl, rfl, rfl, by decide +kernel, rfl, by decide +kernel, by decide +kernel⟩
abbrev s_first_astray : Stmt := topOf 13
abbrev N_first_astray : List Str := ["places", "at", "lies"]
theorem sc_first_astray : FnScope N_first_astray ["places"] (defScope s_first_astray) := ⟨rfl, rfl, rfl, by decide +kernel, rfl, by decide +kernel, by decide +kernel⟩
abbrev s_drop : Stmt := topOf 14
abbrev N_drop : List Str := ["places", "highest", "result", "place", "level", "close", "step"]
theorem sc_drop : FnScope N_drop ["places"] (defScope s_drop) := ⟨rfl, rfl, rfl, by decide +kernel, rfl, by decide +kernel, by decide +kernel⟩
abbrev s_split_at : Stmt := topOf 15
abbrev N_split_at : List Str := ["places", "at", "lying", "staying", "going", "place", "lies"]
theorem sc_split_at : FnScope N_split_at ["places", "at"] (defScope s_split_at) := ⟨rfl, rfl, rfl, by decide +kernel, rfl, by decide +kernel, by decide +kernel⟩
abbrev s_is_pyramid : Stmt := topOf 16
abbrev N_is_pyramid : List Str := ["places"]
theorem sc_is_pyramid : FnScope N_is_pyramid ["places"] (defScope s_is_pyramid) := ⟨rfl, rfl, rfl, by decide +kernel, rfl, by decide +kernel, by decide +kernel⟩
abbrev s_is_strict : Stmt := topOf 17
abbrev N_is_strict : List Str := ["places", "bare", "place"]
theorem sc_is_strict : FnScope N_is_strict ["places"] (defScope s_is_strict) := ⟨rfl, rfl, rfl, by decide +kernel, rfl, by decide +kernel, by decide +kernel⟩
abbrev s_is_half : Stmt := topOf 18
abbrev N_is_half : List Str := ["places"]
theorem sc_is_half : FnScope N_is_half ["places"] (defScope s_is_half) := ⟨rfl, rfl, rfl, by decide +kernel, rfl, by decide +kernel, by decide +kernel⟩
abbrev s_levels : Stmt := topOf 19
abbrev N_levels : List Str := ["places", "at"]
theorem sc_levels : FnScope N_levels ["places"] (defScope s_levels) := ⟨rfl, rfl, rfl, by decide +kernel, rfl, by decide +kernel, by decide +kernel⟩
abbrev s_pushed : Stmt := topOf 20
abbrev N_pushed : List Str := ["places", "at"]
theorem sc_pushed : FnScope N_pushed ["places", "at"] (defScope s_pushed) := ⟨rfl, rfl, rfl, by decide +kernel, rfl, by decide +kernel, by decide +kernel⟩
abbrev s__law_pool : Stmt := topOf 22
abbrev N__law_pool : List Str := ["script", "cell"]
theorem sc__law_pool : FnScope N__law_pool ["script"] (defScope s__law_pool) := ⟨rfl, rfl, rfl, by decide +kernel, rfl, by decide +kernel, by decide +kernel⟩
abbrev s__law_draw : Stmt := topOf 23
abbrev N__law_draw : List Str := ["pool", "many", "cell"]
theorem sc__law_draw : FnScope N__law_draw ["pool", "many"] (defScope s__law_draw) := ⟨rfl, rfl, rfl, by decide +kernel, rfl, by decide +kernel, by decide +kernel⟩
abbrev s__law_same : Stmt := topOf 24
abbrev N__law_same : List Str := ["told", "due"]
theorem sc__law_same : FnScope N__law_same ["told", "due"] (defScope s__law_same) := ⟨rfl, rfl, rfl, by decide +kernel, rfl, by decide +kernel, by decide +kernel⟩
abbrev s__law_on : Stmt := topOf 25
abbrev N__law_on : List Str := ["places", "at", "found", "k", "lies", "j"]
theorem sc__law_on : FnScope N__law_on ["places", "at"] (defScope s__law_on) := ⟨rfl, rfl, rfl, by decide +kernel, rfl, by decide +kernel, by decide +kernel⟩
abbrev s__law_levels : Stmt := topOf 26
abbrev N__law_levels : List Str := ["places", "found", "k", "high", "j", "step"]
theorem sc__law_levels : FnScope N__law_levels ["places"] (defScope s__law_levels) := ⟨rfl, rfl, rfl, by decide +kernel, rfl, by decide +kernel, by decide +kernel⟩
abbrev s__law_strict : Stmt := topOf 27
abbrev N__law_strict : List Str := ["places", "k", "same", "between", "j"]
theorem sc__law_strict : FnScope N__law_strict ["places"] (defScope s__law_strict) := ⟨rfl, rfl, rfl, by decide +kernel, rfl, by decide +kernel, by decide +kernel⟩
abbrev s__law_due : Stmt := topOf 28
abbrev N__law_due : List Str := ["which", "places", "at", "wrong", "on", "staying", "going", "whole", "place", "k"]
theorem sc__law_due : FnScope N__law_due ["which", "places", "at"] (defScope s__law_due) := ⟨rfl, rfl, rfl, by decide +kernel, rfl, by decide +kernel, by decide +kernel⟩
abbrev s__law_ask : Stmt := topOf 29
abbrev N__law_ask : List Str := ["which", "places", "at", "told", "e"]
theorem sc__law_ask : FnScope N__law_ask ["which", "places", "at"] (defScope s__law_ask) := ⟨rfl, rfl, rfl, by decide +kernel, rfl, by decide +kernel, by decide +kernel⟩
abbrev s__law_heap : Stmt := topOf 30
abbrev N__law_heap : List Str := ["places", "at", "which", "due", "given", "told"]
theorem sc__law_heap : FnScope N__law_heap ["places", "at"] (defScope s__law_heap) := ⟨rfl, rfl, rfl, by decide +kernel, rfl, by decide +kernel, by decide +kernel⟩
abbrev s__law_pyramid : Stmt := topOf 31
abbrev N__law_pyramid : List Str := ["pool", "size", "least", "places", "k", "near"]
theorem sc__law_pyramid : FnScope N__law_pyramid ["pool", "size", "least"] (defScope s__law_pyramid) := ⟨rfl, rfl, rfl, by decide +kernel, rfl, by decide +kernel, by decide +kernel⟩
abbrev s__law_strict_one : Stmt := topOf 32
abbrev N__law_strict_one : List Str := ["pool", "size", "places", "k", "near", "place"]
theorem sc__law_strict_one : FnScope N__law_strict_one ["pool", "size"] (defScope s__law_strict_one) := ⟨rfl, rfl, rfl, by decide +kernel, rfl, by decide +kernel, by decide +kernel⟩
abbrev s__law_any : Stmt := topOf 33
abbrev N__law_any : List Str := ["pool", "size", "wide", "k"]
theorem sc__law_any : FnScope N__law_any ["pool", "size"] (defScope s__law_any) := ⟨rfl, rfl, rfl, by decide +kernel, rfl, by decide +kernel, by decide +kernel⟩
abbrev s__law_changed : Stmt := topOf 34
abbrev N__law_changed : List Str := ["pool", "places", "cut", "far", "found", "place"]
theorem sc__law_changed : FnScope N__law_changed ["pool", "places"] (defScope s__law_changed) := ⟨rfl, rfl, rfl, by decide +kernel, rfl, by decide +kernel, by decide +kernel⟩
abbrev s__law_beyond : Stmt := topOf 35
abbrev N__law_beyond : List Str := ["pool", "places", "far", "bad", "cut", "low", "size", "found", "k"]
theorem sc__law_beyond : FnScope N__law_beyond ["pool", "places"] (defScope s__law_beyond) := ⟨rfl, rfl, rfl, by decide +kernel, rfl, by decide +kernel, by decide +kernel⟩
abbrev s_law : Stmt := topOf 36
abbrev N_law : List Str := ["script", "pool", "first", "half", "strict", "other", "great", "heaps", "places", "far", "high"]
theorem sc_law : FnScope N_law ["script"] (defScope s_law) := ⟨rfl, rfl, rfl, by decide +kernel, rfl, by decide +kernel, by decide +kernel⟩
abbrev si_NumberError : Stmt := inCls (topOf 2) 0
theorem sci_NumberError : FnScope ["self", "number"] ["self", "number"] (defScope si_NumberError) := ⟨rfl, rfl, rfl, by decide +kernel, rfl, by decide +kernel, by decide +kernel⟩
abbrev si_SizeError : Stmt := inCls (topOf 3) 0
theorem sci_SizeError : FnScope ["self", "count"] ["self", "count"] (defScope si_SizeError) := ⟨rfl, rfl, rfl, by decide +kernel, rfl, by decide +kernel, by decide +kernel⟩
abbrev si_RootError : Stmt := inCls (topOf 5) 0
theorem sci_RootError : FnScope ["self", "x", "y"] ["self", "x", "y"] (defScope si_RootError) := ⟨rfl, rfl, rfl, by decide +kernel, rfl, by decide +kernel, by decide +kernel⟩
/-! what the program does -/
def b_check_number : M Fl :=
  (sIf (tO (toB (b2 (pOrd fun i j => decide (i < j)) (sub (eV 0)) (sub (eV 1)))) (toB (b2 (pOrd fun i j => decide (j < i)) (sub (eV 0)) (sub (eV 2))))) (sRaise "NumberError" ["number"] (aC (sub (eV 0)) aN)) sNil)
def m_check_number : List Sl → R RV := runB 0 b_check_number
def b_check_size : M Fl :=
  (sIf (tO (toB (b2 (pOrd fun i j => decide (i < j)) (sub (eV 0)) (sub (eV 1)))) (toB (b2 (pOrd fun i j => decide (j < i)) (sub (eV 0)) (sub (eV 2))))) (sRaise "SizeError" ["count"] (aC (sub (eV 0)) aN)) sNil)
def m_check_size : List Sl → R RV := runB 0 b_check_size
def L1_check_places : M Fl :=
  (sExpr (eCall 3 m_check_number (aC (sub (eV 1)) (aC (sub (b1 pNeg (sub (eC (.int 60))))) (aC (sub (eC (.int 60))) aN)))))
def b_check_places : M Fl :=
  (sSeq (sExpr (eCall 3 m_check_size (aC (sub (eB qLen (aC (sub (eV 0)) aN))) (aC (sub (eC (.int 1))) (aC (sub (eC (.int 60))) aN)))))
  (sFor (iSeq (sub (eV 0))) (setS 1) L1_check_places))
def m_check_places : List Sl → R RV := runB 1 b_check_places
def L1_lying_on : M Fl :=
  (sPut 2 (sub (eC (.bl true))) (sub (eV 7)))
def L2_lying_on : M Fl :=
  (sSeq (sSet 6 (eO (b2 pEq (sub (eV 4)) (sub (eV 1))) (b2 (pIn false) (sub (eV 5)) (sub (eV 2)))))
  (sSeq (sIf (eT (sub (eV 6))) (sFor (iRange2 (aC (sub (b2 pSub (sub (eV 5)) (sub (eC (.int 1))))) (aC (sub (b2 pAdd (sub (eV 5)) (sub (eC (.int 2))))) aN))) (setS 7) L1_lying_on) sNil)
  (sExpr (mApp 3 (sub (eV 6))))))
def b_lying_on : M Fl :=
  (sSeq (sSet 2 eDct)
  (sSeq (sSet 3 (eLst aN))
  (sSeq (sFor (iEnum1 (aC (sub (eV 0)) aN)) (gT 2 (gC (setS 4) (gC (setS 5) gN))) L2_lying_on)
  (sRet (eV 3)))))
def m_lying_on : List Sl → R RV := runB 6 b_lying_on
def L1_first_astray : M Fl :=
  (sIf (tNt (eT (sub (eV 2)))) (sRet (eV 1)) sNil)
def b_first_astray : M Fl :=
  (sSeq (sIf (toB (b2 pNe (sub (b2 pIx (sub (eV 0)) (sub (eC (.int 0))))) (sub (eC (.int 0))))) (sRet (eC (.int 0))) sNil)
  (sSeq (sFor (iEnum1 (aC (sub (eCall 2 m_lying_on (aC (sub (eV 0)) (aC (sub (eC (.int 0))) aN)))) aN)) (gT 2 (gC (setS 1) (gC (setS 2) gN))) L1_first_astray)
  (sRet (eC .non))))
def m_first_astray : List Sl → R RV := runB 2 b_first_astray
def L1_drop : M Fl :=
  (sIf (toB (b2 (pIn false) (sub (eV 5)) (sub (eV 1)))) (sSet 4 (eB qMax (aC (sub (eV 4)) (aC (sub (b2 pAdd (sub (b2 pDx (sub (eV 1)) (sub (eV 5)))) (sub (eV 6)))) aN)))) sNil)
def L2_drop : M Fl :=
  (sSeq (sSet 4 (eC (.int 0)))
  (sSeq (sFor (iSeq (sub (eTup (aC (sub (eTup (aC (sub (b2 pSub (sub (eV 3)) (sub (eC (.int 1))))) (aC (sub (eC (.int 1))) aN)))) (aC (sub (eTup (aC (sub (eV 3)) (aC (sub (eC (.int 2))) aN)))) (aC (sub (eTup (aC (sub (b2 pAdd (sub (eV 3)) (sub (eC (.int 1))))) (aC (sub (eC (.int 1))) aN)))) aN)))))) (gT 2 (gC (setS 5) (gC (setS 6) gN))) L1_drop)
  (sSeq (sPut 1 (sub (eV 4)) (sub (eV 3)))
  (sExpr (mApp 2 (sub (eV 4)))))))
def b_drop : M Fl :=
  (sSeq (sSet 1 eDct)
  (sSeq (sSet 2 (eLst aN))
  (sSeq (sFor (iSeq (sub (eV 0))) (setS 3) L2_drop)
  (sRet (eV 2)))))
def m_drop : List Sl → R RV := runB 6 b_drop
def E1_split_at : M AV :=
  (sub (eV 5))
def T1_split_at : M Bool :=
  (tNt (eT (sub (eV 6))))
def E2_split_at : M AV :=
  (sub (eV 5))
def T2_split_at : M Bool :=
  (eT (sub (eV 6)))
def b_split_at : M Fl :=
  (sSeq (sSet 2 (eCall 2 m_lying_on (aC (sub (eV 0)) (aC (sub (eV 1)) aN))))
  (sSeq (sSet 3 (eComp [5, 6] (iZip2 (aC (sub (eV 0)) (aC (sub (eV 2)) aN))) (gT 2 (gC (setS 5) (gC (setS 6) gN))) T1_split_at E1_split_at))
  (sSeq (sSet 4 (eComp [5, 6] (iZip2 (aC (sub (eV 0)) (aC (sub (eV 2)) aN))) (gT 2 (gC (setS 5) (gC (setS 6) gN))) T2_split_at E2_split_at))
  (sRet (eTupO (aC (sub (eV 3)) (aC (sub (eV 4)) aN)))))))
def m_split_at : List Sl → R RV := runB 5 b_split_at
def b_is_pyramid : M Fl :=
  (sSeq (sExpr (eCall 1 m_check_places (aC (sub (eV 0)) aN)))
  (sRet (b2 (pIsN false) (sub (eCall 1 m_first_astray (aC (sub (eV 0)) aN))) (sub (eC .non)))))
def m_is_pyramid : List Sl → R RV := runB 0 b_is_pyramid
def L1_is_strict : M Fl :=
  (sSeq (sIf (eT (sub (mGet2 (sub (eV 1)) (sub (eV 2)) (sub (eC (.bl false)))))) (sRet (eC (.bl false))) sNil)
  (sSeq (sPut 1 (sub (eC (.bl true))) (sub (eV 2)))
  (sSeq (sPut 1 (sub (eC (.bl false))) (sub (b2 pSub (sub (eV 2)) (sub (eC (.int 1))))))
  (sPut 1 (sub (eC (.bl false))) (sub (b2 pAdd (sub (eV 2)) (sub (eC (.int 1)))))))))
def b_is_strict : M Fl :=
  (sSeq (sExpr (eCall 1 m_check_places (aC (sub (eV 0)) aN)))
  (sSeq (sSet 1 eDct)
  (sSeq (sFor (iSeq (sub (eV 0))) (setS 2) L1_is_strict)
  (sRet (b2 (pIsN false) (sub (eCall 1 m_first_astray (aC (sub (eV 0)) aN))) (sub (eC .non)))))))
def m_is_strict : List Sl → R RV := runB 2 b_is_strict
def b_is_half : M Fl :=
  (sSeq (sExpr (eCall 1 m_check_places (aC (sub (eV 0)) aN)))
  (sRet (eAn (b2 (pIsN false) (sub (eCall 1 m_first_astray (aC (sub (eV 0)) aN))) (sub (eC .non))) (b2 (pOrd fun i j => decide (j ≤ i)) (sub (eB qMin (aC (sub (eV 0)) aN))) (sub (eC (.int 0)))))))
def m_is_half : List Sl → R RV := runB 0 b_is_half
def b_levels : M Fl :=
  (sSeq (sExpr (eCall 1 m_check_places (aC (sub (eV 0)) aN)))
  (sSeq (sSet 1 (eCall 1 m_first_astray (aC (sub (eV 0)) aN)))
  (sSeq (sIf (toB (b2 (pIsN true) (sub (eV 1)) (sub (eC .non)))) (sRaise "RootError" ["x", "y"] (aC (sub (eV 1)) (aC (sub (b2 pIx (sub (eV 0)) (sub (eV 1)))) aN))) sNil)
  (sRet (eCall 1 m_drop (aC (sub (eV 0)) aN))))))
def m_levels : List Sl → R RV := runB 1 b_levels
def b_pushed : M Fl :=
  (sSeq (sExpr (eCall 1 m_check_places (aC (sub (eV 0)) aN)))
  (sSeq (sExpr (eCall 3 m_check_number (aC (sub (eV 1)) (aC (sub (eC (.int 0))) (aC (sub (b2 pSub (sub (eB qLen (aC (sub (eV 0)) aN))) (sub (eC (.int 1))))) aN)))))
  (sRet (eCall 2 m_split_at (aC (sub (eV 0)) (aC (sub (eV 1)) aN))))))
def m_pushed : List Sl → R RV := runB 0 b_pushed
def E1__law_pool : M AV :=
  (sub (b2 pMod (sub (eB qInt (aC (sub (eB qAbs (aC (sub (eV 1)) aN))) aN))) (sub (b2 pPow (sub (eC (.int 10))) (sub (eC (.int 60)))))))
def b__law_pool : M Fl :=
  (sRet (b2 pAdd (sub (eLst (aC (sub (eC (.int 0))) aN))) (sub (eComp [1] (iSeq (sub (eSl (sub (eV 0)) oO (oI (sub (eC (.int 63))))))) (setS 1) (pure true) E1__law_pool))))
def m__law_pool : List Sl → R RV := runB 1 b__law_pool
def b__law_draw : M Fl :=
  (sSeq (sSetIx 0 (sub (b2 pAdd (sub (b2 pIx (sub (eV 0)) (sub (eC (.int 0))))) (sub (eC (.int 1))))) (sub (eC (.int 0))))
  (sSeq (sIf (toB (b2 pEq (sub (eB qLen (aC (sub (eV 0)) aN))) (sub (eC (.int 1))))) (sRet (b2 pMod (sub (eB qInt (aC (sub (b2 pIx (sub (eV 0)) (sub (eC (.int 0))))) aN))) (sub (eV 1)))) sNil)
  (sSeq (sSet 2 (eB qInt (aC (sub (b2 pIx (sub (eV 0)) (sub (eC (.int 1))))) aN)))
  (sSeq (sSetIx 0 (sub (b2 pDiv (sub (eV 2)) (sub (eV 1)))) (sub (eC (.int 1))))
  (sSeq (sIf (toB (b2 pEq (sub (b2 pIx (sub (eV 0)) (sub (eC (.int 1))))) (sub (eC (.int 0))))) (sExpr (mPopAt 0 (sub (eC (.int 1))))) sNil)
  (sRet (b2 pMod (sub (eB qInt (aC (sub (eV 2)) aN))) (sub (eV 1)))))))))
def m__law_draw : List Sl → R RV := runB 1 b__law_draw
def b__law_same : M Fl :=
  (sRet (eAn (b2 pEq (sub (eV 0)) (sub (eV 1))) (b2 pEq (sub (eB qRepr (aC (sub (eV 0)) aN))) (sub (eB qRepr (aC (sub (eV 1)) aN))))))
def m__law_same : List Sl → R RV := runB 0 b__law_same
def L1__law_on : M Fl :=
  (sIf (tAn (eT (sub (b2 pIx (sub (eV 2)) (sub (eV 5))))) (toB (b2 (pOrd fun i j => decide (i < j)) (sub (eB qAbs (aC (sub (b2 pSub (sub (b2 pIx (sub (eV 0)) (sub (eV 5)))) (sub (b2 pIx (sub (eV 0)) (sub (eV 3)))))) aN))) (sub (eC (.int 2)))))) (sSet 4 (eC (.bl true))) sNil)
def L2__law_on : M Fl :=
  (sSeq (sSet 4 (b2 pEq (sub (eV 3)) (sub (eV 1))))
  (sSeq (sFor (iRange2 (aC (sub (eV 1)) (aC (sub (eV 3)) aN))) (setS 5) L1__law_on)
  (sExpr (mApp 2 (sub (eV 4))))))
def b__law_on : M Fl :=
  (sSeq (sSet 2 (eLst aN))
  (sSeq (sFor (iRange1 (aC (sub (eB qLen (aC (sub (eV 0)) aN))) aN)) (setS 3) L2__law_on)
  (sRet (eV 2))))
def m__law_on : List Sl → R RV := runB 4 b__law_on
def L1__law_levels : M Fl :=
  (sSeq (sSet 5 (eB qAbs (aC (sub (b2 pSub (sub (b2 pIx (sub (eV 0)) (sub (eV 4)))) (sub (b2 pIx (sub (eV 0)) (sub (eV 2)))))) aN)))
  (sIf (toB (b2 (pOrd fun i j => decide (i < j)) (sub (eV 5)) (sub (eC (.int 2))))) (sSet 3 (eB qMax (aC (sub (eV 3)) (aC (sub (b2 pSub (sub (b2 pAdd (sub (b2 pIx (sub (eV 1)) (sub (eV 4)))) (sub (eC (.int 2))))) (sub (eV 5)))) aN)))) sNil))
def L2__law_levels : M Fl :=
  (sSeq (sSet 3 (eC (.int 0)))
  (sSeq (sFor (iRange1 (aC (sub (eV 2)) aN)) (setS 4) L1__law_levels)
  (sExpr (mApp 1 (sub (eV 3))))))
def b__law_levels : M Fl :=
  (sSeq (sSet 1 (eLst (aC (sub (eC (.int 0))) aN)))
  (sSeq (sFor (iRange2 (aC (sub (eC (.int 1))) (aC (sub (eB qLen (aC (sub (eV 0)) aN))) aN))) (setS 2) L2__law_levels)
  (sRet (eV 1))))
def m__law_levels : List Sl → R RV := runB 5 b__law_levels
def E1__law_strict : M AV :=
  (sub (eV 4))
def T1__law_strict : M Bool :=
  (toB (b2 pEq (sub (b2 pIx (sub (eV 0)) (sub (eV 4)))) (sub (b2 pIx (sub (eV 0)) (sub (eV 1))))))
def L1__law_strict : M Fl :=
  (sSeq (sSet 2 (eComp [4] (iRange1 (aC (sub (eV 1)) aN)) (setS 4) T1__law_strict E1__law_strict))
  (sIf (eT (sub (eV 2))) (sSeq (sSet 3 (eSl (sub (eV 0)) (oI (sub (b2 pAdd (sub (b2 pIx (sub (eV 2)) (sub (b1 pNeg (sub (eC (.int 1))))))) (sub (eC (.int 1)))))) (oI (sub (eV 1)))))
  (sIf (tAn (toB (b2 (pIn true) (sub (b2 pSub (sub (b2 pIx (sub (eV 0)) (sub (eV 1)))) (sub (eC (.int 1))))) (sub (eV 3)))) (toB (b2 (pIn true) (sub (b2 pAdd (sub (b2 pIx (sub (eV 0)) (sub (eV 1)))) (sub (eC (.int 1))))) (sub (eV 3))))) (sRet (eC (.bl false))) sNil)) sNil))
def b__law_strict : M Fl :=
  (sSeq (sFor (iRange1 (aC (sub (eB qLen (aC (sub (eV 0)) aN))) aN)) (setS 1) L1__law_strict)
  (sRet (eC (.bl true))))
def m__law_strict : List Sl → R RV := runB 4 b__law_strict
def E1__law_due : M AV :=
  (sub (eV 8))
def T1__law_due : M Bool :=
  (tO (toB (b2 (pOrd fun i j => decide (i < j)) (sub (eV 8)) (sub (b1 pNeg (sub (eC (.int 60))))))) (toB (b2 (pOrd fun i j => decide (j < i)) (sub (eV 8)) (sub (eC (.int 60))))))
def E2__law_due : M AV :=
  (sub (b2 pIx (sub (eV 1)) (sub (eV 9))))
def T2__law_due : M Bool :=
  (tNt (eT (sub (b2 pIx (sub (eV 4)) (sub (eV 9))))))
def E3__law_due : M AV :=
  (sub (b2 pIx (sub (eV 1)) (sub (eV 9))))
def T3__law_due : M Bool :=
  (eT (sub (b2 pIx (sub (eV 4)) (sub (eV 9)))))
def R11__law_due : M Fl :=
  (sRet (eLst (aC (sub (eC (.str "told"))) (aC (sub (eCall 1 m__law_levels (aC (sub (eV 1)) aN))) aN))))
def R10__law_due : M Fl :=
  (sSeq (sIf (tNt (eT (sub (eV 7)))) (sRet (eLst (aC (sub (eC (.str "root"))) (aC (sub (mIndex (sub (eV 4)) (sub (eC (.bl false))))) (aC (sub (b2 pIx (sub (eV 1)) (sub (mIndex (sub (eV 4)) (sub (eC (.bl false))))))) (aC (sub (eC (.bl false))) aN)))))) sNil) R11__law_due)
def R9__law_due : M Fl :=
  (sSeq (sIf (toB (b2 pNe (sub (b2 pIx (sub (eV 1)) (sub (eC (.int 0))))) (sub (eC (.int 0))))) (sRet (eLst (aC (sub (eC (.str "root"))) (aC (sub (eC (.int 0))) (aC (sub (b2 pIx (sub (eV 1)) (sub (eC (.int 0))))) (aC (sub (eC (.bl false))) aN)))))) sNil) R10__law_due)
def R8__law_due : M Fl :=
  (sSeq (sIf (toB (b2 pEq (sub (eV 0)) (sub (eC (.int 2))))) (sRet (eLst (aC (sub (eC (.str "told"))) (aC (sub (eAn (eV 7) (b2 (pOrd fun i j => decide (j ≤ i)) (sub (eB qMin (aC (sub (eV 1)) aN))) (sub (eC (.int 0)))))) aN)))) sNil) R9__law_due)
def R7__law_due : M Fl :=
  (sSeq (sIf (toB (b2 pEq (sub (eV 0)) (sub (eC (.int 1))))) (sRet (eLst (aC (sub (eC (.str "told"))) (aC (sub (eAn (eV 7) (eCall 1 m__law_strict (aC (sub (eV 1)) aN)))) aN)))) sNil) R8__law_due)
def R6__law_due : M Fl :=
  (sSeq (sIf (toB (b2 pEq (sub (eV 0)) (sub (eC (.int 0))))) (sRet (eLst (aC (sub (eC (.str "told"))) (aC (sub (eV 7)) aN)))) sNil) R7__law_due)
def R5__law_due : M Fl :=
  (sSeq (sSet 7 (eAn (b2 pEq (sub (b2 pIx (sub (eV 1)) (sub (eC (.int 0))))) (sub (eC (.int 0)))) (b2 (pIn true) (sub (eC (.bl false))) (sub (eV 4))))) R6__law_due)
def R4__law_due : M Fl :=
  (sSeq (sSet 4 (eCall 2 m__law_on (aC (sub (eV 1)) (aC (sub (eC (.int 0))) aN)))) R5__law_due)
def R3__law_due : M Fl :=
  (sSeq (sIf (toB (b2 pEq (sub (eV 0)) (sub (eC (.int 4))))) (sSeq (sIf (tO (toB (b2 (pOrd fun i j => decide (i < j)) (sub (eV 2)) (sub (eC (.int 0))))) (toB (b2 (pOrd fun i j => decide (j ≤ i)) (sub (eV 2)) (sub (eB qLen (aC (sub (eV 1)) aN)))))) (sRet (eLst (aC (sub (eC (.str "number"))) (aC (sub (eV 2)) (aC (sub (eC (.bl false))) aN))))) sNil)
  (sSeq (sSet 4 (eCall 2 m__law_on (aC (sub (eV 1)) (aC (sub (eV 2)) aN))))
  (sSeq (sSet 5 (eComp [9] (iRange1 (aC (sub (eB qLen (aC (sub (eV 1)) aN))) aN)) (setS 9) T2__law_due E2__law_due))
  (sSeq (sSet 6 (eComp [9] (iRange1 (aC (sub (eB qLen (aC (sub (eV 1)) aN))) aN)) (setS 9) T3__law_due E3__law_due))
  (sRet (eLst (aC (sub (eC (.str "told"))) (aC (sub (eTup (aC (sub (eV 5)) (aC (sub (eV 6)) aN)))) aN)))))))) sNil) R4__law_due)
def R2__law_due : M Fl :=
  (sSeq (sIf (eT (sub (eV 3))) (sRet (eLst (aC (sub (eC (.str "number"))) (aC (sub (b2 pIx (sub (eV 3)) (sub (eC (.int 0))))) (aC (sub (eC (.bl false))) aN))))) sNil) R3__law_due)
def R1__law_due : M Fl :=
  (sSeq (sSet 3 (eComp [8] (iSeq (sub (eV 1))) (setS 8) T1__law_due E1__law_due)) R2__law_due)
def b__law_due : M Fl :=
  (sSeq (sIf (tO (toB (b2 (pOrd fun i j => decide (i < j)) (sub (eB qLen (aC (sub (eV 1)) aN))) (sub (eC (.int 1))))) (toB (b2 (pOrd fun i j => decide (j < i)) (sub (eB qLen (aC (sub (eV 1)) aN))) (sub (eC (.int 60)))))) (sRet (eLst (aC (sub (eC (.str "size"))) (aC (sub (eB qLen (aC (sub (eV 1)) aN))) (aC (sub (eC (.bl false))) aN))))) sNil) R1__law_due)
def m__law_due : List Sl → R RV := runB 7 b__law_due
def b__law_ask : M Fl :=
  (sSeq (sTry (isaT exCls exPrs) [("RootError", (some 4), fun er => (sRet (eLst (aC (sub (eC (.str "root"))) (aC (sub (eXf exCls exFld er 4 "x")) (aC (sub (eXf exCls exFld er 4 "y")) (aC (sub (eIsL exCls exPrs er 4 ["NumberError", "SizeError", "WordError"])) aN))))))), ("NumberError", (some 4), fun er => (sRet (eLst (aC (sub (eC (.str "number"))) (aC (sub (eXf exCls exFld er 4 "number")) (aC (sub (eIsL exCls exPrs er 4 ["RootError", "SizeError", "WordError"])) aN)))))), ("SizeError", (some 4), fun er => (sRet (eLst (aC (sub (eC (.str "size"))) (aC (sub (eXf exCls exFld er 4 "count")) (aC (sub (eIsL exCls exPrs er 4 ["NumberError", "RootError", "WordError"])) aN)))))), ("RimmachinesError", none, fun er => (sRet (eLst (aC (sub (eC (.str "other"))) aN))))] (sIf (toB (b2 pEq (sub (eV 0)) (sub (eC (.int 0))))) (sSet 3 (eCall 1 m_is_pyramid (aC (sub (eV 1)) aN))) (sIf (toB (b2 pEq (sub (eV 0)) (sub (eC (.int 1))))) (sSet 3 (eCall 1 m_is_strict (aC (sub (eV 1)) aN))) (sIf (toB (b2 pEq (sub (eV 0)) (sub (eC (.int 2))))) (sSet 3 (eCall 1 m_is_half (aC (sub (eV 1)) aN))) (sIf (toB (b2 pEq (sub (eV 0)) (sub (eC (.int 3))))) (sSet 3 (eCall 1 m_levels (aC (sub (eV 1)) aN))) (sSet 3 (eCall 2 m_pushed (aC (sub (eV 1)) (aC (sub (eV 2)) aN)))))))))
  (sRet (eLstO (aC (sub (eC (.str "told"))) (aC (sub (eV 3)) aN)))))
def m__law_ask : List Sl → R RV := runB 2 b__law_ask
def L1__law_heap : M Fl :=
  (sSeq (sSet 3 (eCall 3 m__law_due (aC (sub (eV 2)) (aC (sub (eV 0)) (aC (sub (eV 1)) aN)))))
  (sSeq (sSet 4 (eB qList (aC (sub (eV 0)) aN)))
  (sSeq (sSet 5 (eCall 3 m__law_ask (aC (sub (eV 2)) (aC (sub (eV 4)) (aC (sub (eV 1)) aN)))))
  (sSeq (sIf (tO (tNt (eT (sub (rd (eCall 2 m__law_same (aC (sub (eV 5)) (aC (sub (eV 3)) aN))))))) (tNt (eT (sub (rd (eCall 2 m__law_same (aC (sub (eV 4)) (aC (sub (eV 0)) aN)))))))) (sRet (eC (.bl false))) sNil)
  (sSeq (sIf (tAn (toB (b2 pEq (sub (eV 2)) (sub (eC (.int 3))))) (toB (b2 pEq (sub (b2 pIx (sub (eV 3)) (sub (eC (.int 0))))) (sub (eC (.str "told")))))) (sExpr (mAppP 5 (pS pN (xC 1)) (sub (eC (.int 7))))) sNil)
  (sSeq (sIf (tAn (toB (b2 pEq (sub (eV 2)) (sub (eC (.int 4))))) (toB (b2 pEq (sub (b2 pIx (sub (eV 3)) (sub (eC (.int 0))))) (sub (eC (.str "told")))))) (sSeq (sExpr (mAppP 5 (pS (pS pN (xC 1)) (xC 0)) (sub (eC (.int 7)))))
  (sExpr (mAppP 5 (pS (pS pN (xC 1)) (xC 1)) (sub (eC (.int 7)))))) sNil)
  (sIf (tNt (eT (sub (rd (eCall 2 m__law_same (aC (sub (eCall 3 m__law_ask (aC (sub (eV 2)) (aC (sub (eB qTuple (aC (sub (eV 0)) aN))) (aC (sub (eV 1)) aN))))) (aC (sub (eV 3)) aN))))))) (sRet (eC (.bl false))) sNil)))))))
def R1__law_heap : M Fl :=
  (sRet (eC (.bl true)))
def b__law_heap : M Fl :=
  (sSeq (sFor (iRange1 (aC (sub (eC (.int 5))) aN)) (setS 2) L1__law_heap) R1__law_heap)
def m__law_heap : List Sl → R RV := runB 4 b__law_heap
def L1__law_pyramid : M Fl :=
  (sSeq (sSet 5 (b2 pIx (sub (eV 3)) (sub (eCallI 0 1 m__law_draw (aC (sub (eB qLen (aC (sub (eV 3)) aN))) aN)))))
  (sExpr (mApp 3 (sub (eB qMax (aC (sub (eV 2)) (aC (sub (b2 pSub (sub (b2 pAdd (sub (eV 5)) (sub (eCallI 0 1 m__law_draw (aC (sub (eC (.int 3))) aN))))) (sub (eC (.int 1))))) aN)))))))
def R2__law_pyramid : M Fl :=
  (sRet (eV 3))
def R1__law_pyramid : M Fl :=
  (sSeq (sFor (iRange1 (aC (sub (b2 pSub (sub (eV 1)) (sub (eC (.int 1))))) aN)) (setS 4) L1__law_pyramid) R2__law_pyramid)
def b__law_pyramid : M Fl :=
  (sSeq (sSet 3 (eLst (aC (sub (eC (.int 0))) aN))) R1__law_pyramid)
def m__law_pyramid : List Sl → R RV := runB 3 b__law_pyramid
def L1__law_strict_one : M Fl :=
  (sSeq (sSet 4 (b2 pIx (sub (eV 2)) (sub (eCallI 0 1 m__law_draw (aC (sub (eB qLen (aC (sub (eV 2)) aN))) aN)))))
  (sSeq (sSet 5 (b2 pSub (sub (b2 pAdd (sub (eV 4)) (sub (eC (.int 1))))) (sub (b2 pMul (sub (eC (.int 2))) (sub (eCallI 0 1 m__law_draw (aC (sub (eC (.int 2))) aN)))))))
  (sIf (eT (sub (eCall 1 m__law_strict (aC (sub (b2 pAdd (sub (eV 2)) (sub (eLst (aC (sub (eV 5)) aN))))) aN)))) (sExpr (mApp 2 (sub (eV 5)))) sNil)))
def b__law_strict_one : M Fl :=
  (sSeq (sSet 2 (eLst (aC (sub (eC (.int 0))) aN)))
  (sSeq (sFor (iRange1 (aC (sub (b2 pSub (sub (eV 1)) (sub (eC (.int 1))))) aN)) (setS 3) L1__law_strict_one)
  (sRet (eV 2))))
def m__law_strict_one : List Sl → R RV := runB 4 b__law_strict_one
def E1__law_any : M AV :=
  (sub (b2 pSub (sub (eCallI 0 1 m__law_draw (aC (sub (eV 2)) aN))) (sub (b2 pDiv (sub (eV 2)) (sub (eC (.int 2)))))))
def b__law_any : M Fl :=
  (sSeq (sSet 2 (eC (.int 7)))
  (sSeq (sIf (toB (b2 pEq (sub (eCallI 0 1 m__law_draw (aC (sub (eC (.int 2))) aN))) (sub (eC (.int 1))))) (sSet 2 (eC (.int 121))) sNil)
  (sRet (eComp [3] (iRange1 (aC (sub (eV 1)) aN)) (setS 3) (pure true) E1__law_any))))
def m__law_any : List Sl → R RV := runB 2 b__law_any
def E1__law_changed : M AV :=
  (sub (b2 pAdd (sub (eV 5)) (sub (eC (.int 1)))))
def E2__law_changed : M AV :=
  (sub (b2 pSub (sub (eV 5)) (sub (eC (.int 1)))))
def R7__law_changed : M Fl :=
  (sRet (eV 4))
def R6__law_changed : M Fl :=
  (sSeq (sExpr (mApp 4 (sub (eComp [5] (iSeq (sub (eV 1))) (setS 5) (pure true) E2__law_changed)))) R7__law_changed)
def R5__law_changed : M Fl :=
  (sSeq (sExpr (mApp 4 (sub (eComp [5] (iSeq (sub (eV 1))) (setS 5) (pure true) E1__law_changed)))) R6__law_changed)
def R4__law_changed : M Fl :=
  (sSeq (sSet 4 (b2 pAdd (sub (eV 4)) (sub (eLst (aC (sub (b2 pAdd (sub (eV 1)) (sub (eLst (aC (sub (b2 pIx (sub (eV 1)) (sub (b1 pNeg (sub (eC (.int 1))))))) aN))))) (aC (sub (b2 pAdd (sub (eLst (aC (sub (eC (.int 1))) aN))) (sub (eV 1)))) aN)))))) R5__law_changed)
def R3__law_changed : M Fl :=
  (sSeq (sSet 4 (eLst (aC (sub (b2 pAdd (sub (b2 pAdd (sub (eSl (sub (eV 1)) oO (oI (sub (eV 2))))) (sub (eLst (aC (sub (eV 3)) aN))))) (sub (eSl (sub (eV 1)) (oI (sub (eV 2))) oO)))) aN))) R4__law_changed)
def R2__law_changed : M Fl :=
  (sSeq (sIf (toB (b2 pEq (sub (eCallI 0 1 m__law_draw (aC (sub (eC (.int 2))) aN))) (sub (eC (.int 1))))) (sSet 3 (b2 pSub (sub (b2 pSub (sub (eB qMin (aC (sub (eV 1)) aN))) (sub (eC (.int 2))))) (sub (eCallI 0 1 m__law_draw (aC (sub (eC (.int 3))) aN))))) sNil) R3__law_changed)
def R1__law_changed : M Fl :=
  (sSeq (sSet 3 (b2 pAdd (sub (b2 pAdd (sub (eB qMax (aC (sub (eV 1)) aN))) (sub (eC (.int 2))))) (sub (eCallI 0 1 m__law_draw (aC (sub (eC (.int 3))) aN))))) R2__law_changed)
def b__law_changed : M Fl :=
  (sSeq (sSet 2 (b2 pAdd (sub (eC (.int 1))) (sub (eCallI 0 1 m__law_draw (aC (sub (eB qLen (aC (sub (eV 1)) aN))) aN))))) R1__law_changed)
def m__law_changed : List Sl → R RV := runB 4 b__law_changed
def E1__law_beyond : M AV :=
  (sub (eC (.int 0)))
def E2__law_beyond : M AV :=
  (sub (eV 3))
def R8__law_beyond : M Fl :=
  (sRet (eV 7))
def R7__law_beyond : M Fl :=
  (sSeq (sExpr (mApp 7 (sub (eComp [8] (iRange1 (aC (sub (eV 6)) aN)) (setS 8) (pure true) E2__law_beyond)))) R8__law_beyond)
def R6__law_beyond : M Fl :=
  (sSeq (sExpr (mApp 7 (sub (eComp [8] (iRange1 (aC (sub (eV 6)) aN)) (setS 8) (pure true) E1__law_beyond)))) R7__law_beyond)
def R5__law_beyond : M Fl :=
  (sSeq (sSet 7 (eLst (aC (sub (b2 pAdd (sub (eV 5)) (sub (eSl (sub (eV 1)) (oI (sub (eV 4))) oO)))) (aC (sub (b2 pAdd (sub (b2 pAdd (sub (eV 5)) (sub (eLst (aC (sub (b1 pNeg (sub (eV 3)))) aN))))) (sub (eSl (sub (eV 1)) (oI (sub (eV 4))) oO)))) (aC (sub (eLst aN)) aN))))) R6__law_beyond)
def R4__law_beyond : M Fl :=
  (sSeq (sSet 6 (b2 pAdd (sub (eC (.int 61))) (sub (eCallI 0 1 m__law_draw (aC (sub (eC (.int 3))) aN))))) R5__law_beyond)
def R3__law_beyond : M Fl :=
  (sSeq (sSet 5 (b2 pAdd (sub (eSl (sub (eV 1)) oO (oI (sub (eV 4))))) (sub (eLst (aC (sub (eV 3)) aN))))) R4__law_beyond)
def R2__law_beyond : M Fl :=
  (sSeq (sSet 4 (eCallI 0 1 m__law_draw (aC (sub (b2 pAdd (sub (eB qLen (aC (sub (eV 1)) aN))) (sub (eC (.int 1))))) aN))) R3__law_beyond)
def R1__law_beyond : M Fl :=
  (sSeq (sSet 3 (b2 pIx (sub (eLst (aC (sub (b1 pNeg (sub (eC (.int 61))))) (aC (sub (eC (.int 61))) (aC (sub (b2 pSub (sub (b1 pNeg (sub (eC (.int 61))))) (sub (eV 2)))) (aC (sub (b2 pAdd (sub (eC (.int 61))) (sub (eV 2)))) aN)))))) (sub (eCallI 0 1 m__law_draw (aC (sub (eC (.int 4))) aN))))) R2__law_beyond)
def b__law_beyond : M Fl :=
  (sSeq (sSet 2 (eCallI 0 1 m__law_draw (aC (sub (b2 pPow (sub (eC (.int 10))) (sub (eC (.int 20))))) aN))) R1__law_beyond)
def m__law_beyond : List Sl → R RV := runB 7 b__law_beyond
def L1_law : M Fl :=
  (sIf (tNt (eT (sub (eCall 2 m__law_heap (aC (sub (eV 8)) (aC (sub (b2 pSub (sub (eCallI 1 1 m__law_draw (aC (sub (b2 pAdd (sub (eB qLen (aC (sub (eV 8)) aN))) (sub (eC (.int 2))))) aN))) (sub (eC (.int 1))))) aN)))))) (sRet (eC (.bl false))) sNil)
def R14_law : M Fl :=
  (sRet (eAn (eCall 2 m__law_heap (aC (sub (eV 4)) (aC (sub (eC (.int 0))) aN))) (eCall 2 m__law_heap (aC (sub (eV 2)) (aC (sub (eC (.int 0))) aN)))))
def R13_law : M Fl :=
  (sSeq (sIf (tNt (eT (sub (rd (eCall 2 m__law_same (aC (sub (eCall 1 m_levels (aC (sub (eB qTuple (aC (sub (eV 2)) aN))) aN))) (aC (sub (eCall 1 m__law_levels (aC (sub (eV 2)) aN))) aN))))))) (sRet (eC (.bl false))) sNil) R14_law)
def R12_law : M Fl :=
  (sSeq (sIf (eT (sub (eV 6))) (sSeq (sSet 10 (eCallI 1 2 m__law_pyramid (aC (sub (eC (.int 60))) (aC (sub (b1 pNeg (sub (eC (.int 60))))) aN))))
  (sIf (tNt (eT (sub (eCall 2 m__law_heap (aC (sub (eV 10)) (aC (sub (eCallI 1 1 m__law_draw (aC (sub (eC (.int 60))) aN))) aN)))))) (sRet (eC (.bl false))) sNil)) sNil) R13_law)
def R11_law : M Fl :=
  (sSeq (sIf (tO (tNt (eT (sub (eCall 2 m__law_heap (aC (sub (eV 2)) (aC (sub (eV 9)) aN)))))) (tNt (eT (sub (eCall 2 m__law_heap (aC (sub (eV 2)) (aC (sub (b2 pSub (sub (b1 pNeg (sub (eC (.int 1))))) (sub (eV 9)))) aN))))))) (sRet (eC (.bl false))) sNil) R12_law)
def R10_law : M Fl :=
  (sSeq (sSet 9 (b2 pAdd (sub (eB qLen (aC (sub (eV 2)) aN))) (sub (eCallI 1 1 m__law_draw (aC (sub (b2 pPow (sub (eC (.int 10))) (sub (eC (.int 20))))) aN))))) R11_law)
def R9_law : M Fl :=
  (sSeq (sIf (tO (tNt (eT (sub (eCall 2 m__law_heap (aC (sub (eV 2)) (aC (sub (eB qLen (aC (sub (eV 2)) aN))) aN)))))) (tNt (eT (sub (eCall 2 m__law_heap (aC (sub (eV 2)) (aC (sub (b1 pNeg (sub (eC (.int 1))))) aN))))))) (sRet (eC (.bl false))) sNil) R10_law)
def R8_law : M Fl :=
  (sSeq (sFor (iSeq (sub (b2 pAdd (sub (eV 7)) (sub (eCallI 1 1 m__law_beyond (aC (sub (eV 3)) aN)))))) (setS 8) L1_law) R9_law)
def R7_law : M Fl :=
  (sSeq (sSet 7 (b2 pAdd (sub (eV 7)) (sub (eCallI 1 1 m__law_changed (aC (sub (eV 4)) aN))))) R8_law)
def R6_law : M Fl :=
  (sSeq (sSet 7 (b2 pAdd (sub (eLst (aC (sub (eV 2)) (aC (sub (eV 3)) (aC (sub (eV 4)) (aC (sub (eV 5)) aN)))))) (sub (eCallI 1 1 m__law_changed (aC (sub (eV 2)) aN))))) R7_law)
def R5_law : M Fl :=
  (sSeq (sSet 6 (b2 pEq (sub (eCallI 1 1 m__law_draw (aC (sub (eC (.int 8))) aN))) (sub (eC (.int 0))))) R6_law)
def R4_law : M Fl :=
  (sSeq (sSet 5 (eCallI 1 1 m__law_any (aC (sub (b2 pAdd (sub (eC (.int 1))) (sub (eCallI 1 1 m__law_draw (aC (sub (eC (.int 10))) aN))))) aN))) R5_law)
def R3_law : M Fl :=
  (sSeq (sSet 4 (eCallI 1 1 m__law_strict_one (aC (sub (b2 pAdd (sub (eC (.int 1))) (sub (eCallI 1 1 m__law_draw (aC (sub (eC (.int 10))) aN))))) aN))) R4_law)
def R2_law : M Fl :=
  (sSeq (sSet 3 (eCallI 1 2 m__law_pyramid (aC (sub (b2 pAdd (sub (eC (.int 1))) (sub (eCallI 1 1 m__law_draw (aC (sub (eC (.int 10))) aN))))) (aC (sub (eC (.int 0))) aN)))) R3_law)
def R1_law : M Fl :=
  (sSeq (sSet 2 (eCallI 1 2 m__law_pyramid (aC (sub (b2 pAdd (sub (eC (.int 1))) (sub (eCallI 1 1 m__law_draw (aC (sub (eC (.int 10))) aN))))) (aC (sub (b1 pNeg (sub (eC (.int 60))))) aN)))) R2_law)
def b_law : M Fl :=
  (sSeq (sSet 1 (eCall 1 m__law_pool (aC (sub (eV 0)) aN))) R1_law)
def m_law : List Sl → R RV := runB 10 b_law
/-! what the top has written -/
structure Txt (K : PySem.W.Frag) (mg : Str → Option Value) (ad ca ia : Nat → Addr) (fd fi : Nat → FuncData) (tk : Nat → Tok) : Prop where
  g_check_number : mg "check_number" = some (.ref (ad 0))
  F_check_number : Fun K "check_number" "check_number" s_check_number (ad 0) (fd 0)
  b_check_number : Binds K (fd 0) ["number", "least", "most"] []
  g_check_size : mg "check_size" = some (.ref (ad 1))
  F_check_size : Fun K "check_size" "check_size" s_check_size (ad 1) (fd 1)
  b_check_size : Binds K (fd 1) ["count", "least", "most"] []
  g_check_places : mg "check_places" = some (.ref (ad 2))
  F_check_places : Fun K "check_places" "check_places" s_check_places (ad 2) (fd 2)
  b_check_places : Binds K (fd 2) ["places"] []
  g_lying_on : mg "lying_on" = some (.ref (ad 3))
  F_lying_on : Fun K "lying_on" "lying_on" s_lying_on (ad 3) (fd 3)
  b_lying_on : Binds K (fd 3) ["places", "at"] []
  g_first_astray : mg "first_astray" = some (.ref (ad 4))
  F_first_astray : Fun K "first_astray" "first_astray" s_first_astray (ad 4) (fd 4)
  b_first_astray : Binds K (fd 4) ["places"] []
  g_drop : mg "drop" = some (.ref (ad 5))
  F_drop : Fun K "drop" "drop" s_drop (ad 5) (fd 5)
  b_drop : Binds K (fd 5) ["places"] []
  g_split_at : mg "split_at" = some (.ref (ad 6))
  F_split_at : Fun K "split_at" "split_at" s_split_at (ad 6) (fd 6)
  b_split_at : Binds K (fd 6) ["places", "at"] []
  g_is_pyramid : mg "is_pyramid" = some (.ref (ad 7))
  F_is_pyramid : Fun K "is_pyramid" "is_pyramid" s_is_pyramid (ad 7) (fd 7)
  b_is_pyramid : Binds K (fd 7) ["places"] []
  g_is_strict : mg "is_strict" = some (.ref (ad 8))
  F_is_strict : Fun K "is_strict" "is_strict" s_is_strict (ad 8) (fd 8)
  b_is_strict : Binds K (fd 8) ["places"] []
  g_is_half : mg "is_half" = some (.ref (ad 9))
  F_is_half : Fun K "is_half" "is_half" s_is_half (ad 9) (fd 9)
  b_is_half : Binds K (fd 9) ["places"] []
  g_levels : mg "levels" = some (.ref (ad 10))
  F_levels : Fun K "levels" "levels" s_levels (ad 10) (fd 10)
  b_levels : Binds K (fd 10) ["places"] []
  g_pushed : mg "pushed" = some (.ref (ad 11))
  F_pushed : Fun K "pushed" "pushed" s_pushed (ad 11) (fd 11)
  b_pushed : Binds K (fd 11) ["places", "at"] []
  g__law_pool : mg "_law_pool" = some (.ref (ad 12))
  F__law_pool : Fun K "_law_pool" "_law_pool" s__law_pool (ad 12) (fd 12)
  b__law_pool : Binds K (fd 12) ["script"] []
  g__law_draw : mg "_law_draw" = some (.ref (ad 13))
  F__law_draw : Fun K "_law_draw" "_law_draw" s__law_draw (ad 13) (fd 13)
  b__law_draw : Binds K (fd 13) ["pool", "many"] []
  g__law_same : mg "_law_same" = some (.ref (ad 14))
  F__law_same : Fun K "_law_same" "_law_same" s__law_same (ad 14) (fd 14)
  b__law_same : Binds K (fd 14) ["told", "due"] []
  g__law_on : mg "_law_on" = some (.ref (ad 15))
  F__law_on : Fun K "_law_on" "_law_on" s__law_on (ad 15) (fd 15)
  b__law_on : Binds K (fd 15) ["places", "at"] []
  g__law_levels : mg "_law_levels" = some (.ref (ad 16))
  F__law_levels : Fun K "_law_levels" "_law_levels" s__law_levels (ad 16) (fd 16)
  b__law_levels : Binds K (fd 16) ["places"] []
  g__law_strict : mg "_law_strict" = some (.ref (ad 17))
  F__law_strict : Fun K "_law_strict" "_law_strict" s__law_strict (ad 17) (fd 17)
  b__law_strict : Binds K (fd 17) ["places"] []
  g__law_due : mg "_law_due" = some (.ref (ad 18))
  F__law_due : Fun K "_law_due" "_law_due" s__law_due (ad 18) (fd 18)
  b__law_due : Binds K (fd 18) ["which", "places", "at"] []
  g__law_ask : mg "_law_ask" = some (.ref (ad 19))
  F__law_ask : Fun K "_law_ask" "_law_ask" s__law_ask (ad 19) (fd 19)
  b__law_ask : Binds K (fd 19) ["which", "places", "at"] []
  g__law_heap : mg "_law_heap" = some (.ref (ad 20))
  F__law_heap : Fun K "_law_heap" "_law_heap" s__law_heap (ad 20) (fd 20)
  b__law_heap : Binds K (fd 20) ["places", "at"] []
  g__law_pyramid : mg "_law_pyramid" = some (.ref (ad 21))
  F__law_pyramid : Fun K "_law_pyramid" "_law_pyramid" s__law_pyramid (ad 21) (fd 21)
  b__law_pyramid : Binds K (fd 21) ["pool", "size", "least"] []
  g__law_strict_one : mg "_law_strict_one" = some (.ref (ad 22))
  F__law_strict_one : Fun K "_law_strict_one" "_law_strict_one" s__law_strict_one (ad 22) (fd 22)
  b__law_strict_one : Binds K (fd 22) ["pool", "size"] []
  g__law_any : mg "_law_any" = some (.ref (ad 23))
  F__law_any : Fun K "_law_any" "_law_any" s__law_any (ad 23) (fd 23)
  b__law_any : Binds K (fd 23) ["pool", "size"] []
  g__law_changed : mg "_law_changed" = some (.ref (ad 24))
  F__law_changed : Fun K "_law_changed" "_law_changed" s__law_changed (ad 24) (fd 24)
  b__law_changed : Binds K (fd 24) ["pool", "places"] []
  g__law_beyond : mg "_law_beyond" = some (.ref (ad 25))
  F__law_beyond : Fun K "_law_beyond" "_law_beyond" s__law_beyond (ad 25) (fd 25)
  b__law_beyond : Binds K (fd 25) ["pool", "places"] []
  g_law : mg "law" = some (.ref (ad 26))
  F_law : Fun K "law" "law" s_law (ad 26) (fd 26)
  b_law : Binds K (fd 26) ["script"] []
  kw_levels : KwB K (fd 10) ["places"]
  z_abs : mg "abs" = none
  z_enumerate : mg "enumerate" = none
  z_int : mg "int" = none
  z_isinstance : mg "isinstance" = none
  z_len : mg "len" = none
  z_list : mg "list" = none
  z_max : mg "max" = none
  z_min : mg "min" = none
  z_range : mg "range" = none
  z_repr : mg "repr" = none
  z_tuple : mg "tuple" = none
  z_zip : mg "zip" = none
  c_MOST : mg "MOST" = some (.int 60 (tk 0))
  gc_RimmachinesError : mg "RimmachinesError" = some (.ref (ca 0))
  gc_NumberError : mg "NumberError" = some (.ref (ca 1))
  gc_SizeError : mg "SizeError" = some (.ref (ca 2))
  gc_WordError : mg "WordError" = some (.ref (ca 3))
  gc_RootError : mg "RootError" = some (.ref (ca 4))
  ex : ExT K mg exCls exPrs exFld
  oc_NumberError : OexC K (ca 1)
  ic_NumberError : PySem.W.findIn K (.ref (ca 1)) "__init__" = some (some (.ref (ia 0)))
  no_NumberError : PySem.W.findIn K (.ref (ca 1)) "number" = some none
  oc_SizeError : OexC K (ca 2)
  ic_SizeError : PySem.W.findIn K (.ref (ca 2)) "__init__" = some (some (.ref (ia 1)))
  no_SizeError : PySem.W.findIn K (.ref (ca 2)) "count" = some none
  oc_RootError : OexC K (ca 4)
  ic_RootError : PySem.W.findIn K (.ref (ca 4)) "__init__" = some (some (.ref (ia 2)))
  no_RootError : PySem.W.findIn K (.ref (ca 4)) "x" = some none ∧ PySem.W.findIn K (.ref (ca 4)) "y" = some none
  Fi_NumberError : Fun K "__init__" "NumberError.__init__" si_NumberError (ia 0) (fi 0)
  bi_NumberError : Binds K (fi 0) ["self", "number"] []
  it_NumberError : PySem.W.typeIn K (.ref (ia 0)) = some (.type "function")
  Fi_SizeError : Fun K "__init__" "SizeError.__init__" si_SizeError (ia 1) (fi 1)
  bi_SizeError : Binds K (fi 1) ["self", "count"] []
  it_SizeError : PySem.W.typeIn K (.ref (ia 1)) = some (.type "function")
  Fi_RootError : Fun K "__init__" "RootError.__init__" si_RootError (ia 2) (fi 2)
  bi_RootError : Binds K (fi 2) ["self", "x", "y"] []
  it_RootError : PySem.W.typeIn K (.ref (ia 2)) = some (.type "function")
section
variable {P : Program} {w : World} {K : PySem.W.Frag} {mg : Str → Option Value} {base : Heap} {ad ca ia : Nat → Addr} {fd fi : Nat → FuncData} {tk : Nat → Tok}
theorem I_NumberError (T : Txt K mg ad ca ia fd fi tk) : FnOk P w K mg base CX0 1 (ia 0) (fi 0) ["self", "number"] (spInit K ["number"]) :=
  T.Fi_NumberError.ok sci_NumberError (spInit_len rfl) fun cdv A outer s H vs Q E hr h => ⟨_, pss_one (ps_ost (pv 0) (pv 1)), init1 h⟩
theorem I_SizeError (T : Txt K mg ad ca ia fd fi tk) : FnOk P w K mg base CX0 1 (ia 1) (fi 1) ["self", "count"] (spInit K ["count"]) :=
  T.Fi_SizeError.ok sci_SizeError (spInit_len rfl) fun cdv A outer s H vs Q E hr h => ⟨_, pss_one (ps_ost (pv 0) (pv 1)), init1 h⟩
theorem I_RootError (T : Txt K mg ad ca ia fd fi tk) : FnOk P w K mg base CX0 1 (ia 2) (fi 2) ["self", "x", "y"] (spInit K ["x", "y"]) :=
  T.Fi_RootError.ok sci_RootError (spInit_len rfl) fun cdv A outer s H vs Q E hr h => ⟨_, pss_cons (ps_ost (pv 0) (pv 1)) (pss_one (ps_ost (pv 0) (pv 2))), init2 h⟩
theorem G_lying_on (T : Txt K mg ad ca ia fd fi tk) : FnG P w K mg base 1 (ad 3) (fd 3) ["places", "at"] (spF K mg m_lying_on 2) := by
  refine fnF T.F_lying_on sc_lying_on rfl rfl fun cdv A outer s H E hgd hr => ?_
  have nd := sc_lying_on.nd
  have hr : Room 0 (cxOf (L2.CX P w) P w K mg base N_lying_on "lying_on" (defScope s_lying_on) (ad 3) cdv A outer s H E).A := hr
  have tk : Takes (cxOf (L2.CX P w) P w K mg base N_lying_on "lying_on" (defScope s_lying_on) (ad 3) cdv A outer s H E) (fun cls d _ G => E cls d G) := takes_of rfl rfl rfl rfl
  unfold b_lying_on
  exact (ss_cons (st_set 2 se_dct nd) (ss_cons (st_set 3 (se_lst sa_nil) nd) (ss_cons (st_for (si_enum1 (by rfl) T.z_enumerate (sa_cons ((se_var 0)).sub sa_nil)) (sg_tup (by rfl) (sgs_cons (sg_name 4 nd) (sgs_cons (sg_name 5 nd) sgs_nil))) (ss_cons (st_set 6 (se_or (se_cmp (op_equ (by exact hr.units)) p_eq ((se_var 4)).sub ((se_var 1)).sub (nomark _)) (se_one (se_cmp (op_inA (by exact hu_of hr)) p_in ((se_var 5)).sub ((se_var 2)).sub (by rfl)))) nd) (ss_cons (st_if (st_tru ((se_var 6)).sub) (ss_one (st_for (si_range2 (by rfl) T.z_range (sa_cons ((se_bin op_sub p_sub ((se_var 5)).sub (se_int).sub)).sub (sa_cons ((se_bin op_plus p_add ((se_var 5)).sub (se_int).sub)).sub sa_nil))) (sg_name 7 nd) (ss_one (st_put 2 (se_bl).sub ((se_var 7)).sub fun _ _ pe pi => ps_dput (by exact hu_of hr) (pv 2) pi pe (by rfl))) (passes_of (by rfl)) (by rfl))) ss_nil) (ss_one (st_expr (se_append 3 ((se_var 6)).sub fun t pt => pe_bm PySem.F.plainAttrs_list PySem.F.slot_list_append PySem.F.type_list_append mt_append (pv 3) (pa_cons pt pa_nil)))))) (passes_of (by rfl)) (by rfl)) (ss_one (st_ret (se_var 3))))))
theorem G_drop (T : Txt K mg ad ca ia fd fi tk) : FnG P w K mg base 1 (ad 5) (fd 5) ["places"] (spF K mg m_drop 1) := by
  refine fnF T.F_drop sc_drop rfl rfl fun cdv A outer s H E hgd hr => ?_
  have nd := sc_drop.nd
  have hr : Room 0 (cxOf (L2.CX P w) P w K mg base N_drop "drop" (defScope s_drop) (ad 5) cdv A outer s H E).A := hr
  have tk : Takes (cxOf (L2.CX P w) P w K mg base N_drop "drop" (defScope s_drop) (ad 5) cdv A outer s H E) (fun cls d _ G => E cls d G) := takes_of rfl rfl rfl rfl
  unfold b_drop
  exact (ss_cons (st_set 1 se_dct nd) (ss_cons (st_set 2 (se_lst sa_nil) nd) (ss_cons (st_for (si_seq ((se_var 0)).sub) (sg_name 3 nd) (ss_cons (st_set 4 se_int nd) (ss_cons (st_for (si_seq ((se_tup (sa_cons ((se_tup (sa_cons ((se_bin op_sub p_sub ((se_var 3)).sub (se_int).sub)).sub (sa_cons (se_int).sub sa_nil)))).sub (sa_cons ((se_tup (sa_cons ((se_var 3)).sub (sa_cons (se_int).sub sa_nil)))).sub (sa_cons ((se_tup (sa_cons ((se_bin op_plus p_add ((se_var 3)).sub (se_int).sub)).sub (sa_cons (se_int).sub sa_nil)))).sub sa_nil))))).sub) (sg_tup (by rfl) (sgs_cons (sg_name 5 nd) (sgs_cons (sg_name 6 nd) sgs_nil))) (ss_one (st_if (st_cmp (op_inA (by exact hu_of hr)) p_in ((se_var 5)).sub ((se_var 1)).sub (by rfl)) (ss_one (st_set 4 (se_callB (call_maxA (by exact hr.units) (by rfl)) q_max (by rfl) T.z_max (by decide +kernel) (sa_cons ((se_var 4)).sub (sa_cons ((se_bin op_plus p_add ((se_dx (by exact hu_of hr) ((se_var 1)).sub ((se_var 5)).sub (fun _ _ => rfl))).sub ((se_var 6)).sub)).sub sa_nil))) nd)) ss_nil)) (passes_of (by rfl)) (by rfl)) (ss_cons (st_put 1 ((se_var 4)).sub ((se_var 3)).sub fun _ _ pe pi => ps_dput (by exact hu_of hr) (pv 1) pi pe (by rfl)) (ss_one (st_expr (se_append 2 ((se_var 4)).sub fun t pt => pe_bm PySem.F.plainAttrs_list PySem.F.slot_list_append PySem.F.type_list_append mt_append (pv 2) (pa_cons pt pa_nil))))))) (passes_of (by rfl)) (by rfl)) (ss_one (st_ret (se_var 2))))))
theorem G__law_pool (T : Txt K mg ad ca ia fd fi tk) : FnG P w K mg base 1 (ad 12) (fd 12) ["script"] (spF K mg m__law_pool 1) := by
  refine fnF T.F__law_pool sc__law_pool rfl rfl fun cdv A outer s H E hgd hr => ?_
  have nd := sc__law_pool.nd
  have hr : Room 0 (cxOf (L2.CX P w) P w K mg base N__law_pool "_law_pool" (defScope s__law_pool) (ad 12) cdv A outer s H E).A := hr
  have tk : Takes (cxOf (L2.CX P w) P w K mg base N__law_pool "_law_pool" (defScope s__law_pool) (ad 12) cdv A outer s H E) (fun cls d _ G => E cls d G) := takes_of rfl rfl rfl rfl
  unfold b__law_pool
  exact (ss_one (st_ret (se_bin op_plus p_add ((se_lst (sa_cons (se_int).sub sa_nil))).sub ((se_comp (vs := [1]) (si_seq ((se_slice ((se_var 0)).sub so_none (so_some (se_int).sub))).sub) (fun _ _ _ _ _ => (sg_name 1 nd)) (fun _ _ _ _ _ => sts_nil) (fun _ _ _ _ _ => ((se_bin op_mod p_mod ((se_callTy call_int1 q_int (by rfl) T.z_int (by decide +kernel) (sa_cons ((se_callB call_abs q_abs (by rfl) T.z_abs (by decide +kernel) (sa_cons ((se_var 1)).sub sa_nil))).sub sa_nil))).sub ((se_bin op_pow p_pow (se_int).sub (se_int).sub)).sub)).sub) (by decide) fun _ _ _ _ pi pg pt pe => pe_lc (own := [("cell", 1)]) (by rfl) nd pi (blkOk_by (own := [("cell", 1)]) (N := N__law_pool) (sc := defScope s__law_pool) (by decide +kernel)) pg pt pe)).sub)))
theorem G__law_draw (T : Txt K mg ad ca ia fd fi tk) : FnG P w K mg base 1 (ad 13) (fd 13) ["pool", "many"] (spI K mg m__law_draw 1) := by
  refine fnI T.F__law_draw sc__law_draw rfl rfl fun cdv A outer s H E hgd hr => ?_
  have nd := sc__law_draw.nd
  have hr : Room 0 (cxOf (L2.CX P w) P w K mg base N__law_draw "_law_draw" (defScope s__law_draw) (ad 13) cdv A outer s H E).A := hr
  have tk : Takes (cxOf (L2.CX P w) P w K mg base N__law_draw "_law_draw" (defScope s__law_draw) (ad 13) cdv A outer s H E) (fun cls d _ G => E cls d G) := takes_of rfl rfl rfl rfl
  unfold b__law_draw
  exact (ss_cons (st_setIx 0 ((se_bin op_plus p_add ((se_ix ix_seq p_ix ((se_var 0)).sub (se_int).sub (fun _ _ => rfl))).sub (se_int).sub)).sub (se_int).sub fun _ _ pe pi => ps_asg pe (pg_sub (pv 0) pi set_list)) (ss_cons (st_if (st_cmp (op_equ (by exact hr.units)) p_eq ((se_callB call_lenA q_len (by rfl) T.z_len PySem.boot_len (sa_cons ((se_var 0)).sub sa_nil))).sub (se_int).sub (nomark _)) (ss_one (st_ret (se_bin op_mod p_mod ((se_callTy call_int1 q_int (by rfl) T.z_int (by decide +kernel) (sa_cons ((se_ix ix_seq p_ix ((se_var 0)).sub (se_int).sub (fun _ _ => rfl))).sub sa_nil))).sub ((se_var 1)).sub))) ss_nil) (ss_cons (st_set 2 (se_callTy call_int1 q_int (by rfl) T.z_int (by decide +kernel) (sa_cons ((se_ix ix_seq p_ix ((se_var 0)).sub (se_int).sub (fun _ _ => rfl))).sub sa_nil)) nd) (ss_cons (st_setIx 0 ((se_bin op_fdivW p_div ((se_var 2)).sub ((se_var 1)).sub)).sub (se_int).sub fun _ _ pe pi => ps_asg pe (pg_sub (pv 0) pi set_list)) (ss_cons (st_if (st_cmp (op_equ (by exact hr.units)) p_eq ((se_ix ix_seq p_ix ((se_var 0)).sub (se_int).sub (fun _ _ => rfl))).sub (se_int).sub (nomark _)) (ss_one (st_expr (se_popAt 0 (se_int).sub fun t pt => pe_bm PySem.F.plainAttrs_list PySem.F.slot_list_pop PySem.F.type_list_pop mt_popAt (pv 0) (pa_cons pt pa_nil)))) ss_nil) (ss_one (st_ret (se_bin op_mod p_mod ((se_callTy call_int1 q_int (by rfl) T.z_int (by decide +kernel) (sa_cons ((se_var 2)).sub sa_nil))).sub ((se_var 1)).sub))))))))
theorem G__law_same (T : Txt K mg ad ca ia fd fi tk) : FnG P w K mg base 1 (ad 14) (fd 14) ["told", "due"] (spF K mg m__law_same 2) := by
  refine fnF T.F__law_same sc__law_same rfl rfl fun cdv A outer s H E hgd hr => ?_
  have nd := sc__law_same.nd
  have hr : Room 0 (cxOf (L2.CX P w) P w K mg base N__law_same "_law_same" (defScope s__law_same) (ad 14) cdv A outer s H E).A := hr
  have tk : Takes (cxOf (L2.CX P w) P w K mg base N__law_same "_law_same" (defScope s__law_same) (ad 14) cdv A outer s H E) (fun cls d _ G => E cls d G) := takes_of rfl rfl rfl rfl
  unfold b__law_same
  exact (ss_one (st_ret (se_and (se_cmp (op_equ (by exact hr.units)) p_eq ((se_var 0)).sub ((se_var 1)).sub (nomark _)) (se_one (se_cmp (op_equ (by exact hr.units)) p_eq ((se_callB (call_reprA (by exact hgd) (by exact hr.units)) q_repr (by rfl) T.z_repr (by decide +kernel) (sa_cons ((se_var 0)).sub sa_nil))).sub ((se_callB (call_reprA (by exact hgd) (by exact hr.units)) q_repr (by rfl) T.z_repr (by decide +kernel) (sa_cons ((se_var 1)).sub sa_nil))).sub (nomark _))))))
theorem G__law_on (T : Txt K mg ad ca ia fd fi tk) : FnG P w K mg base 1 (ad 15) (fd 15) ["places", "at"] (spF K mg m__law_on 2) := by
  refine fnF T.F__law_on sc__law_on rfl rfl fun cdv A outer s H E hgd hr => ?_
  have nd := sc__law_on.nd
  have hr : Room 0 (cxOf (L2.CX P w) P w K mg base N__law_on "_law_on" (defScope s__law_on) (ad 15) cdv A outer s H E).A := hr
  have tk : Takes (cxOf (L2.CX P w) P w K mg base N__law_on "_law_on" (defScope s__law_on) (ad 15) cdv A outer s H E) (fun cls d _ G => E cls d G) := takes_of rfl rfl rfl rfl
  unfold b__law_on
  exact (ss_cons (st_set 2 (se_lst sa_nil) nd) (ss_cons (st_for (si_range1 (by rfl) T.z_range (sa_cons ((se_callB call_lenA q_len (by rfl) T.z_len PySem.boot_len (sa_cons ((se_var 0)).sub sa_nil))).sub sa_nil)) (sg_name 3 nd) (ss_cons (st_set 4 (se_cmp (op_equ (by exact hr.units)) p_eq ((se_var 3)).sub ((se_var 1)).sub (nomark _)) nd) (ss_cons (st_for (si_range2 (by rfl) T.z_range (sa_cons ((se_var 1)).sub (sa_cons ((se_var 3)).sub sa_nil))) (sg_name 5 nd) (ss_one (st_if ((sw_and (st_tru ((se_ix ix_seq p_ix ((se_var 2)).sub ((se_var 5)).sub (fun _ _ => rfl))).sub) (sw_and1 (st_cmp op_lt p_ord ((se_callB call_abs q_abs (by rfl) T.z_abs (by decide +kernel) (sa_cons ((se_bin op_sub p_sub ((se_ix ix_seq p_ix ((se_var 0)).sub ((se_var 5)).sub (fun _ _ => rfl))).sub ((se_ix ix_seq p_ix ((se_var 0)).sub ((se_var 3)).sub (fun _ _ => rfl))).sub)).sub sa_nil))).sub (se_int).sub (nomark _))))).tt (ss_one (st_set 4 se_bl nd)) ss_nil)) (passes_of (by rfl)) (by rfl)) (ss_one (st_expr (se_append 2 ((se_var 4)).sub fun t pt => pe_bm PySem.F.plainAttrs_list PySem.F.slot_list_append PySem.F.type_list_append mt_append (pv 2) (pa_cons pt pa_nil)))))) (passes_of (by rfl)) (by rfl)) (ss_one (st_ret (se_var 2)))))
theorem G__law_levels (T : Txt K mg ad ca ia fd fi tk) : FnG P w K mg base 1 (ad 16) (fd 16) ["places"] (spF K mg m__law_levels 1) := by
  refine fnF T.F__law_levels sc__law_levels rfl rfl fun cdv A outer s H E hgd hr => ?_
  have nd := sc__law_levels.nd
  have hr : Room 0 (cxOf (L2.CX P w) P w K mg base N__law_levels "_law_levels" (defScope s__law_levels) (ad 16) cdv A outer s H E).A := hr
  have tk : Takes (cxOf (L2.CX P w) P w K mg base N__law_levels "_law_levels" (defScope s__law_levels) (ad 16) cdv A outer s H E) (fun cls d _ G => E cls d G) := takes_of rfl rfl rfl rfl
  unfold b__law_levels
  exact (ss_cons (st_set 1 (se_lst (sa_cons (se_int).sub sa_nil)) nd) (ss_cons (st_for (si_range2 (by rfl) T.z_range (sa_cons (se_int).sub (sa_cons ((se_callB call_lenA q_len (by rfl) T.z_len PySem.boot_len (sa_cons ((se_var 0)).sub sa_nil))).sub sa_nil))) (sg_name 2 nd) (ss_cons (st_set 3 se_int nd) (ss_cons (st_for (si_range1 (by rfl) T.z_range (sa_cons ((se_var 2)).sub sa_nil)) (sg_name 4 nd) (ss_cons (st_set 5 (se_callB call_abs q_abs (by rfl) T.z_abs (by decide +kernel) (sa_cons ((se_bin op_sub p_sub ((se_ix ix_seq p_ix ((se_var 0)).sub ((se_var 4)).sub (fun _ _ => rfl))).sub ((se_ix ix_seq p_ix ((se_var 0)).sub ((se_var 2)).sub (fun _ _ => rfl))).sub)).sub sa_nil)) nd) (ss_one (st_if (st_cmp op_lt p_ord ((se_var 5)).sub (se_int).sub (nomark _)) (ss_one (st_set 3 (se_callB (call_maxA (by exact hr.units) (by rfl)) q_max (by rfl) T.z_max (by decide +kernel) (sa_cons ((se_var 3)).sub (sa_cons ((se_bin op_sub p_sub ((se_bin op_plus p_add ((se_ix ix_seq p_ix ((se_var 1)).sub ((se_var 4)).sub (fun _ _ => rfl))).sub (se_int).sub)).sub ((se_var 5)).sub)).sub sa_nil))) nd)) ss_nil))) (passes_of (by rfl)) (by rfl)) (ss_one (st_expr (se_append 1 ((se_var 3)).sub fun t pt => pe_bm PySem.F.plainAttrs_list PySem.F.slot_list_append PySem.F.type_list_append mt_append (pv 1) (pa_cons pt pa_nil)))))) (passes_of (by rfl)) (by rfl)) (ss_one (st_ret (se_var 1)))))
theorem G__law_strict (T : Txt K mg ad ca ia fd fi tk) : FnG P w K mg base 1 (ad 17) (fd 17) ["places"] (spF K mg m__law_strict 1) := by
  refine fnF T.F__law_strict sc__law_strict rfl rfl fun cdv A outer s H E hgd hr => ?_
  have nd := sc__law_strict.nd
  have hr : Room 0 (cxOf (L2.CX P w) P w K mg base N__law_strict "_law_strict" (defScope s__law_strict) (ad 17) cdv A outer s H E).A := hr
  have tk : Takes (cxOf (L2.CX P w) P w K mg base N__law_strict "_law_strict" (defScope s__law_strict) (ad 17) cdv A outer s H E) (fun cls d _ G => E cls d G) := takes_of rfl rfl rfl rfl
  unfold b__law_strict
  exact (ss_cons (st_for (si_range1 (by rfl) T.z_range (sa_cons ((se_callB call_lenA q_len (by rfl) T.z_len PySem.boot_len (sa_cons ((se_var 0)).sub sa_nil))).sub sa_nil)) (sg_name 1 nd) (ss_cons (st_setLc 2 (vs := [4]) (si_range1 (by rfl) T.z_range (sa_cons ((se_var 1)).sub sa_nil)) (fun _ _ _ _ _ => (sg_name 4 nd)) (fun _ _ _ _ _ => (sts_one (st_cmp (op_equ (by exact hr.units)) p_eq ((se_ix ix_seq p_ix ((se_var 0)).sub ((se_var 4)).sub (fun _ _ => rfl))).sub ((se_ix ix_seq p_ix ((se_var 0)).sub ((se_var 1)).sub (fun _ _ => rfl))).sub (nomark _)))) (fun _ _ _ _ _ => ((se_var 4)).sub) (by decide) fun _ _ _ _ pi pg pt pe => ps_setLc (own := [("j", 4)]) (by rfl) nd (by rfl) (by rfl) (sw_true (by rfl) (by rfl) (by rfl) (by decide +kernel)) pi (blkOk_by (own := [("j", 4)]) (N := N__law_strict) (sc := defScope s__law_strict) (by decide +kernel)) pg pt pe) (ss_one (st_if (st_tru ((se_var 2)).sub) (ss_cons (st_set 3 (se_slice ((se_var 0)).sub (so_some ((se_bin op_plus p_add ((se_ix ix_seq p_ix ((se_var 2)).sub ((se_un un_neg p_neg (se_int).sub)).sub (fun _ _ => rfl))).sub (se_int).sub)).sub) (so_some ((se_var 1)).sub)) nd) (ss_one (st_if ((sw_and (st_cmp (op_notInA (by exact hu_of hr)) p_notIn ((se_bin op_sub p_sub ((se_ix ix_seq p_ix ((se_var 0)).sub ((se_var 1)).sub (fun _ _ => rfl))).sub (se_int).sub)).sub ((se_var 3)).sub (by rfl)) (sw_and1 (st_cmp (op_notInA (by exact hu_of hr)) p_notIn ((se_bin op_plus p_add ((se_ix ix_seq p_ix ((se_var 0)).sub ((se_var 1)).sub (fun _ _ => rfl))).sub (se_int).sub)).sub ((se_var 3)).sub (by rfl))))).tt (ss_one (st_ret se_bl)) ss_nil))) ss_nil))) (passes_of (by rfl)) (by rfl)) (ss_one (st_ret se_bl)))
theorem G_first_astray (T : Txt K mg ad ca ia fd fi tk) : FnG P w K mg base 2 (ad 4) (fd 4) ["places"] (spF K mg m_first_astray 1) := by
  refine fnF T.F_first_astray sc_first_astray rfl rfl fun cdv A outer s H E hgd hr => ?_
  have nd := sc_first_astray.nd
  have hr : Room 1 (cxOf (L2.CX P w) P w K mg base N_first_astray "first_astray" (defScope s_first_astray) (ad 4) cdv A outer s H E).A := hr
  have tk : Takes (cxOf (L2.CX P w) P w K mg base N_first_astray "first_astray" (defScope s_first_astray) (ad 4) cdv A outer s H E) (fun cls d _ G => E cls d G) := takes_of rfl rfl rfl rfl
  unfold b_first_astray
  exact (ss_cons (st_if (st_cmp (op_neq (by exact hr.units)) p_ne ((se_ix ix_seq p_ix ((se_var 0)).sub (se_int).sub (fun _ _ => rfl))).sub (se_int).sub (nomark _)) (ss_one (st_ret se_int)) ss_nil) (ss_cons (st_for (si_enum1 (by rfl) T.z_enumerate (sa_cons ((se_call (G_lying_on T) (by exact hgd) (by exact hr.mono (by decide)) (by exact tk) T.g_lying_on T.F_lying_on.kp T.b_lying_on (by rfl) (sa_cons ((se_var 0)).sub (sa_cons (se_int).sub sa_nil)))).sub sa_nil)) (sg_tup (by rfl) (sgs_cons (sg_name 1 nd) (sgs_cons (sg_name 2 nd) sgs_nil))) (ss_one (st_if (st_not (st_tru ((se_var 2)).sub)) (ss_one (st_ret (se_var 1))) ss_nil)) (passes_of (by rfl)) (by rfl)) (ss_one (st_ret se_non))))
theorem G_split_at (T : Txt K mg ad ca ia fd fi tk) : FnG P w K mg base 2 (ad 6) (fd 6) ["places", "at"] (spF K mg m_split_at 2) := by
  refine fnF T.F_split_at sc_split_at rfl rfl fun cdv A outer s H E hgd hr => ?_
  have nd := sc_split_at.nd
  have hr : Room 1 (cxOf (L2.CX P w) P w K mg base N_split_at "split_at" (defScope s_split_at) (ad 6) cdv A outer s H E).A := hr
  have tk : Takes (cxOf (L2.CX P w) P w K mg base N_split_at "split_at" (defScope s_split_at) (ad 6) cdv A outer s H E) (fun cls d _ G => E cls d G) := takes_of rfl rfl rfl rfl
  unfold b_split_at
  exact (ss_cons (st_set 2 (se_call (G_lying_on T) (by exact hgd) (by exact hr.mono (by decide)) (by exact tk) T.g_lying_on T.F_lying_on.kp T.b_lying_on (by rfl) (sa_cons ((se_var 0)).sub (sa_cons ((se_var 1)).sub sa_nil))) nd) (ss_cons (st_setLc 3 (vs := [5, 6]) (si_zip2 (by rfl) T.z_zip (sa_cons ((se_var 0)).sub (sa_cons ((se_var 2)).sub sa_nil))) (fun _ _ _ _ _ => (sg_tup (by rfl) (sgs_cons (sg_name 5 nd) (sgs_cons (sg_name 6 nd) sgs_nil)))) (fun _ _ _ _ _ => (sts_one (st_not (st_tru ((se_var 6)).sub)))) (fun _ _ _ _ _ => ((se_var 5)).sub) (by decide) fun _ _ _ _ pi pg pt pe => ps_setLc (own := [("place", 5), ("lies", 6)]) (by rfl) nd (by rfl) (by rfl) (sw_true (by rfl) (by rfl) (by rfl) (by decide +kernel)) pi (blkOk_by (own := [("place", 5), ("lies", 6)]) (N := N_split_at) (sc := defScope s_split_at) (by decide +kernel)) pg pt pe) (ss_cons (st_setLc 4 (vs := [5, 6]) (si_zip2 (by rfl) T.z_zip (sa_cons ((se_var 0)).sub (sa_cons ((se_var 2)).sub sa_nil))) (fun _ _ _ _ _ => (sg_tup (by rfl) (sgs_cons (sg_name 5 nd) (sgs_cons (sg_name 6 nd) sgs_nil)))) (fun _ _ _ _ _ => (sts_one (st_tru ((se_var 6)).sub))) (fun _ _ _ _ _ => ((se_var 5)).sub) (by decide) fun _ _ _ _ pi pg pt pe => ps_setLc (own := [("place", 5), ("lies", 6)]) (by rfl) nd (by rfl) (by rfl) (sw_true (by rfl) (by rfl) (by rfl) (by decide +kernel)) pi (blkOk_by (own := [("place", 5), ("lies", 6)]) (N := N_split_at) (sc := defScope s_split_at) (by decide +kernel)) pg pt pe) (ss_one (st_ret (se_tupO (sa_cons ((se_var 3)).sub (sa_cons ((se_var 4)).sub sa_nil))))))))
theorem G__law_due (T : Txt K mg ad ca ia fd fi tk) : FnG P w K mg base 2 (ad 18) (fd 18) ["which", "places", "at"] (spF K mg m__law_due 3) := by
  refine fnF T.F__law_due sc__law_due rfl rfl fun cdv A outer s H E hgd hr => ?_
  have nd := sc__law_due.nd
  have hr : Room 1 (cxOf (L2.CX P w) P w K mg base N__law_due "_law_due" (defScope s__law_due) (ad 18) cdv A outer s H E).A := hr
  have tk : Takes (cxOf (L2.CX P w) P w K mg base N__law_due "_law_due" (defScope s__law_due) (ad 18) cdv A outer s H E) (fun cls d _ G => E cls d G) := takes_of rfl rfl rfl rfl
  unfold b__law_due
  exact (ss_cons (st_if ((sw_or (st_cmp op_lt p_ord ((se_callB call_lenA q_len (by rfl) T.z_len PySem.boot_len (sa_cons ((se_var 1)).sub sa_nil))).sub (se_int).sub (nomark _)) (sw_or1 (st_cmp op_gt p_ord ((se_callB call_lenA q_len (by rfl) T.z_len PySem.boot_len (sa_cons ((se_var 1)).sub sa_nil))).sub (se_int).sub (nomark _))))).tt (ss_one (st_ret (se_lst (sa_cons (se_str).sub (sa_cons ((se_callB call_lenA q_len (by rfl) T.z_len PySem.boot_len (sa_cons ((se_var 1)).sub sa_nil))).sub (sa_cons (se_bl).sub sa_nil)))))) ss_nil) (ss_cons (st_setLc 3 (vs := [8]) (si_seq ((se_var 1)).sub) (fun _ _ _ _ _ => (sg_name 8 nd)) (fun _ _ _ _ _ => (sts_one ((sw_or (st_cmp op_lt p_ord ((se_var 8)).sub ((se_un un_neg p_neg (se_int).sub)).sub (nomark _)) (sw_or1 (st_cmp op_gt p_ord ((se_var 8)).sub (se_int).sub (nomark _))))).tt)) (fun _ _ _ _ _ => ((se_var 8)).sub) (by decide) fun _ _ _ _ pi pg pt pe => ps_setLc (own := [("place", 8)]) (by rfl) nd (by rfl) (by rfl) (sw_true (by rfl) (by rfl) (by rfl) (by decide +kernel)) pi (blkOk_by (own := [("place", 8)]) (N := N__law_due) (sc := defScope s__law_due) (by decide +kernel)) pg pt pe) (ss_cons (st_if (st_tru ((se_var 3)).sub) (ss_one (st_ret (se_lst (sa_cons (se_str).sub (sa_cons ((se_ix ix_seq p_ix ((se_var 3)).sub (se_int).sub (fun _ _ => rfl))).sub (sa_cons (se_bl).sub sa_nil)))))) ss_nil) (ss_cons (st_if (st_cmp (op_equ (by exact hr.units)) p_eq ((se_var 0)).sub (se_int).sub (nomark _)) (ss_cons (st_if ((sw_or (st_cmp op_lt p_ord ((se_var 2)).sub (se_int).sub (nomark _)) (sw_or1 (st_cmp op_ge p_ord ((se_var 2)).sub ((se_callB call_lenA q_len (by rfl) T.z_len PySem.boot_len (sa_cons ((se_var 1)).sub sa_nil))).sub (nomark _))))).tt (ss_one (st_ret (se_lst (sa_cons (se_str).sub (sa_cons ((se_var 2)).sub (sa_cons (se_bl).sub sa_nil)))))) ss_nil) (ss_cons (st_set 4 (se_call (G__law_on T) (by exact hgd) (by exact hr.mono (by decide)) (by exact tk) T.g__law_on T.F__law_on.kp T.b__law_on (by rfl) (sa_cons ((se_var 1)).sub (sa_cons ((se_var 2)).sub sa_nil))) nd) (ss_cons (st_setLc 5 (vs := [9]) (si_range1 (by rfl) T.z_range (sa_cons ((se_callB call_lenA q_len (by rfl) T.z_len PySem.boot_len (sa_cons ((se_var 1)).sub sa_nil))).sub sa_nil)) (fun _ _ _ _ _ => (sg_name 9 nd)) (fun _ _ _ _ _ => (sts_one (st_not (st_tru ((se_ix ix_seq p_ix ((se_var 4)).sub ((se_var 9)).sub (fun _ _ => rfl))).sub)))) (fun _ _ _ _ _ => ((se_ix ix_seq p_ix ((se_var 1)).sub ((se_var 9)).sub (fun _ _ => rfl))).sub) (by decide) fun _ _ _ _ pi pg pt pe => ps_setLc (own := [("k", 9)]) (by rfl) nd (by rfl) (by rfl) (sw_true (by rfl) (by rfl) (by rfl) (by decide +kernel)) pi (blkOk_by (own := [("k", 9)]) (N := N__law_due) (sc := defScope s__law_due) (by decide +kernel)) pg pt pe) (ss_cons (st_setLc 6 (vs := [9]) (si_range1 (by rfl) T.z_range (sa_cons ((se_callB call_lenA q_len (by rfl) T.z_len PySem.boot_len (sa_cons ((se_var 1)).sub sa_nil))).sub sa_nil)) (fun _ _ _ _ _ => (sg_name 9 nd)) (fun _ _ _ _ _ => (sts_one (st_tru ((se_ix ix_seq p_ix ((se_var 4)).sub ((se_var 9)).sub (fun _ _ => rfl))).sub))) (fun _ _ _ _ _ => ((se_ix ix_seq p_ix ((se_var 1)).sub ((se_var 9)).sub (fun _ _ => rfl))).sub) (by decide) fun _ _ _ _ pi pg pt pe => ps_setLc (own := [("k", 9)]) (by rfl) nd (by rfl) (by rfl) (sw_true (by rfl) (by rfl) (by rfl) (by decide +kernel)) pi (blkOk_by (own := [("k", 9)]) (N := N__law_due) (sc := defScope s__law_due) (by decide +kernel)) pg pt pe) (ss_one (st_ret (se_lst (sa_cons (se_str).sub (sa_cons ((se_tup (sa_cons ((se_var 5)).sub (sa_cons ((se_var 6)).sub sa_nil)))).sub sa_nil))))))))) ss_nil) (ss_cons (st_set 4 (se_call (G__law_on T) (by exact hgd) (by exact hr.mono (by decide)) (by exact tk) T.g__law_on T.F__law_on.kp T.b__law_on (by rfl) (sa_cons ((se_var 1)).sub (sa_cons (se_int).sub sa_nil))) nd) (ss_cons (st_set 7 (se_and (se_cmp (op_equ (by exact hr.units)) p_eq ((se_ix ix_seq p_ix ((se_var 1)).sub (se_int).sub (fun _ _ => rfl))).sub (se_int).sub (nomark _)) (se_one (se_cmp (op_notInA (by exact hu_of hr)) p_notIn (se_bl).sub ((se_var 4)).sub (by rfl)))) nd) (ss_cons (st_if (st_cmp (op_equ (by exact hr.units)) p_eq ((se_var 0)).sub (se_int).sub (nomark _)) (ss_one (st_ret (se_lst (sa_cons (se_str).sub (sa_cons ((se_var 7)).sub sa_nil))))) ss_nil) (ss_cons (st_if (st_cmp (op_equ (by exact hr.units)) p_eq ((se_var 0)).sub (se_int).sub (nomark _)) (ss_one (st_ret (se_lst (sa_cons (se_str).sub (sa_cons ((se_and (se_var 7) (se_one (se_call (G__law_strict T) (by exact hgd) (by exact hr.mono (by decide)) (by exact tk) T.g__law_strict T.F__law_strict.kp T.b__law_strict (by rfl) (sa_cons ((se_var 1)).sub sa_nil))))).sub sa_nil))))) ss_nil) (ss_cons (st_if (st_cmp (op_equ (by exact hr.units)) p_eq ((se_var 0)).sub (se_int).sub (nomark _)) (ss_one (st_ret (se_lst (sa_cons (se_str).sub (sa_cons ((se_and (se_var 7) (se_one (se_cmp op_ge p_ord ((se_callB (call_minA (by exact hr.units) (by rfl)) q_min (by rfl) T.z_min (by decide +kernel) (sa_cons ((se_var 1)).sub sa_nil))).sub (se_int).sub (nomark _))))).sub sa_nil))))) ss_nil) (ss_cons (st_if (st_cmp (op_neq (by exact hr.units)) p_ne ((se_ix ix_seq p_ix ((se_var 1)).sub (se_int).sub (fun _ _ => rfl))).sub (se_int).sub (nomark _)) (ss_one (st_ret (se_lst (sa_cons (se_str).sub (sa_cons (se_int).sub (sa_cons ((se_ix ix_seq p_ix ((se_var 1)).sub (se_int).sub (fun _ _ => rfl))).sub (sa_cons (se_bl).sub sa_nil))))))) ss_nil) (ss_cons (st_if (st_not (st_tru ((se_var 7)).sub)) (ss_one (st_ret (se_lst (sa_cons (se_str).sub (sa_cons ((se_index ((se_var 4)).sub (se_bl).sub fun _ _ pa pb => pe_bm PySem.F.plainAttrs_list PySem.F.slot_list_index PySem.F.type_list_index mt_index pa (pa_cons pb pa_nil))).sub (sa_cons ((se_ix ix_seq p_ix ((se_var 1)).sub ((se_index ((se_var 4)).sub (se_bl).sub fun _ _ pa pb => pe_bm PySem.F.plainAttrs_list PySem.F.slot_list_index PySem.F.type_list_index mt_index pa (pa_cons pb pa_nil))).sub (fun _ _ => rfl))).sub (sa_cons (se_bl).sub sa_nil))))))) ss_nil) (ss_one (st_ret (se_lst (sa_cons (se_str).sub (sa_cons ((se_call (G__law_levels T) (by exact hgd) (by exact hr.mono (by decide)) (by exact tk) T.g__law_levels T.F__law_levels.kp T.b__law_levels (by rfl) (sa_cons ((se_var 1)).sub sa_nil))).sub sa_nil))))))))))))))))
theorem G__law_pyramid (T : Txt K mg ad ca ia fd fi tk) : FnG P w K mg base 2 (ad 21) (fd 21) ["pool", "size", "least"] (spI K mg m__law_pyramid 2) := by
  refine fnI T.F__law_pyramid sc__law_pyramid rfl rfl fun cdv A outer s H E hgd hr => ?_
  have nd := sc__law_pyramid.nd
  have hr : Room 1 (cxOf (L2.CX P w) P w K mg base N__law_pyramid "_law_pyramid" (defScope s__law_pyramid) (ad 21) cdv A outer s H E).A := hr
  have tk : Takes (cxOf (L2.CX P w) P w K mg base N__law_pyramid "_law_pyramid" (defScope s__law_pyramid) (ad 21) cdv A outer s H E) (fun cls d _ G => E cls d G) := takes_of rfl rfl rfl rfl
  unfold b__law_pyramid
  exact (ss_cons (st_set 3 (se_lst (sa_cons (se_int).sub sa_nil)) nd) (ss_cons (st_for (si_range1 (by rfl) T.z_range (sa_cons ((se_bin op_sub p_sub ((se_var 1)).sub (se_int).sub)).sub sa_nil)) (sg_name 4 nd) (ss_cons (st_set 5 (se_ix ix_seq p_ix ((se_var 3)).sub ((se_callI 0 (G__law_draw T) (by exact hgd) (by exact hr.mono (by decide)) (by exact tk) T.g__law_draw T.F__law_draw.kp T.b__law_draw (by rfl) (sa_cons ((se_callB call_lenA q_len (by rfl) T.z_len PySem.boot_len (sa_cons ((se_var 3)).sub sa_nil))).sub sa_nil))).sub (fun _ _ => rfl)) nd) (ss_one (st_expr (se_append 3 ((se_callB (call_maxA (by exact hr.units) (by rfl)) q_max (by rfl) T.z_max (by decide +kernel) (sa_cons ((se_var 2)).sub (sa_cons ((se_bin op_sub p_sub ((se_bin op_plus p_add ((se_var 5)).sub ((se_callI 0 (G__law_draw T) (by exact hgd) (by exact hr.mono (by decide)) (by exact tk) T.g__law_draw T.F__law_draw.kp T.b__law_draw (by rfl) (sa_cons (se_int).sub sa_nil))).sub)).sub (se_int).sub)).sub sa_nil)))).sub fun t pt => pe_bm PySem.F.plainAttrs_list PySem.F.slot_list_append PySem.F.type_list_append mt_append (pv 3) (pa_cons pt pa_nil))))) (passes_of (by rfl)) (by rfl)) (ss_one (st_ret (se_var 3)))))
theorem G__law_strict_one (T : Txt K mg ad ca ia fd fi tk) : FnG P w K mg base 2 (ad 22) (fd 22) ["pool", "size"] (spI K mg m__law_strict_one 1) := by
  refine fnI T.F__law_strict_one sc__law_strict_one rfl rfl fun cdv A outer s H E hgd hr => ?_
  have nd := sc__law_strict_one.nd
  have hr : Room 1 (cxOf (L2.CX P w) P w K mg base N__law_strict_one "_law_strict_one" (defScope s__law_strict_one) (ad 22) cdv A outer s H E).A := hr
  have tk : Takes (cxOf (L2.CX P w) P w K mg base N__law_strict_one "_law_strict_one" (defScope s__law_strict_one) (ad 22) cdv A outer s H E) (fun cls d _ G => E cls d G) := takes_of rfl rfl rfl rfl
  unfold b__law_strict_one
  exact (ss_cons (st_set 2 (se_lst (sa_cons (se_int).sub sa_nil)) nd) (ss_cons (st_for (si_range1 (by rfl) T.z_range (sa_cons ((se_bin op_sub p_sub ((se_var 1)).sub (se_int).sub)).sub sa_nil)) (sg_name 3 nd) (ss_cons (st_set 4 (se_ix ix_seq p_ix ((se_var 2)).sub ((se_callI 0 (G__law_draw T) (by exact hgd) (by exact hr.mono (by decide)) (by exact tk) T.g__law_draw T.F__law_draw.kp T.b__law_draw (by rfl) (sa_cons ((se_callB call_lenA q_len (by rfl) T.z_len PySem.boot_len (sa_cons ((se_var 2)).sub sa_nil))).sub sa_nil))).sub (fun _ _ => rfl)) nd) (ss_cons (st_set 5 (se_bin op_sub p_sub ((se_bin op_plus p_add ((se_var 4)).sub (se_int).sub)).sub ((se_bin op_times p_mul (se_int).sub ((se_callI 0 (G__law_draw T) (by exact hgd) (by exact hr.mono (by decide)) (by exact tk) T.g__law_draw T.F__law_draw.kp T.b__law_draw (by rfl) (sa_cons (se_int).sub sa_nil))).sub)).sub) nd) (ss_one (st_if (st_tru ((se_call (G__law_strict T) (by exact hgd) (by exact hr.mono (by decide)) (by exact tk) T.g__law_strict T.F__law_strict.kp T.b__law_strict (by rfl) (sa_cons ((se_bin op_plus p_add ((se_var 2)).sub ((se_lst (sa_cons ((se_var 5)).sub sa_nil))).sub)).sub sa_nil))).sub) (ss_one (st_expr (se_append 2 ((se_var 5)).sub fun t pt => pe_bm PySem.F.plainAttrs_list PySem.F.slot_list_append PySem.F.type_list_append mt_append (pv 2) (pa_cons pt pa_nil)))) ss_nil)))) (passes_of (by rfl)) (by rfl)) (ss_one (st_ret (se_var 2)))))
theorem G__law_any (T : Txt K mg ad ca ia fd fi tk) : FnG P w K mg base 2 (ad 23) (fd 23) ["pool", "size"] (spI K mg m__law_any 1) := by
  refine fnI T.F__law_any sc__law_any rfl rfl fun cdv A outer s H E hgd hr => ?_
  have nd := sc__law_any.nd
  have hr : Room 1 (cxOf (L2.CX P w) P w K mg base N__law_any "_law_any" (defScope s__law_any) (ad 23) cdv A outer s H E).A := hr
  have tk : Takes (cxOf (L2.CX P w) P w K mg base N__law_any "_law_any" (defScope s__law_any) (ad 23) cdv A outer s H E) (fun cls d _ G => E cls d G) := takes_of rfl rfl rfl rfl
  unfold b__law_any
  exact (ss_cons (st_set 2 se_int nd) (ss_cons (st_if (st_cmp (op_equ (by exact hr.units)) p_eq ((se_callI 0 (G__law_draw T) (by exact hgd) (by exact hr.mono (by decide)) (by exact tk) T.g__law_draw T.F__law_draw.kp T.b__law_draw (by rfl) (sa_cons (se_int).sub sa_nil))).sub (se_int).sub (nomark _)) (ss_one (st_set 2 se_int nd)) ss_nil) (ss_one (st_ret (se_comp (vs := [3]) (si_range1 (by rfl) T.z_range (sa_cons ((se_var 1)).sub sa_nil)) (fun _ _ _ _ _ => (sg_name 3 nd)) (fun _ _ _ _ _ => sts_nil) (fun _ _ _ _ _ => ((se_bin op_sub p_sub ((se_callI 0 (G__law_draw T) (by exact hgd) (by exact hr.mono (by decide)) (by exact takes0) T.g__law_draw T.F__law_draw.kp T.b__law_draw (by rfl) (sa_cons ((se_var 2)).sub sa_nil))).sub ((se_bin op_fdivW p_div ((se_var 2)).sub (se_int).sub)).sub)).sub) (by decide) fun _ _ _ _ pi pg pt pe => pe_lc (own := [("k", 3)]) (by rfl) nd pi (blkOk_by (own := [("k", 3)]) (N := N__law_any) (sc := defScope s__law_any) (by decide +kernel)) pg pt pe)))))
theorem G__law_changed (T : Txt K mg ad ca ia fd fi tk) : FnG P w K mg base 2 (ad 24) (fd 24) ["pool", "places"] (spI K mg m__law_changed 1) := by
  refine fnI T.F__law_changed sc__law_changed rfl rfl fun cdv A outer s H E hgd hr => ?_
  have nd := sc__law_changed.nd
  have hr : Room 1 (cxOf (L2.CX P w) P w K mg base N__law_changed "_law_changed" (defScope s__law_changed) (ad 24) cdv A outer s H E).A := hr
  have tk : Takes (cxOf (L2.CX P w) P w K mg base N__law_changed "_law_changed" (defScope s__law_changed) (ad 24) cdv A outer s H E) (fun cls d _ G => E cls d G) := takes_of rfl rfl rfl rfl
  unfold b__law_changed
  exact (ss_cons (st_set 2 (se_bin op_plus p_add (se_int).sub ((se_callI 0 (G__law_draw T) (by exact hgd) (by exact hr.mono (by decide)) (by exact tk) T.g__law_draw T.F__law_draw.kp T.b__law_draw (by rfl) (sa_cons ((se_callB call_lenA q_len (by rfl) T.z_len PySem.boot_len (sa_cons ((se_var 1)).sub sa_nil))).sub sa_nil))).sub) nd) (ss_cons (st_set 3 (se_bin op_plus p_add ((se_bin op_plus p_add ((se_callB (call_maxA (by exact hr.units) (by rfl)) q_max (by rfl) T.z_max (by decide +kernel) (sa_cons ((se_var 1)).sub sa_nil))).sub (se_int).sub)).sub ((se_callI 0 (G__law_draw T) (by exact hgd) (by exact hr.mono (by decide)) (by exact tk) T.g__law_draw T.F__law_draw.kp T.b__law_draw (by rfl) (sa_cons (se_int).sub sa_nil))).sub) nd) (ss_cons (st_if (st_cmp (op_equ (by exact hr.units)) p_eq ((se_callI 0 (G__law_draw T) (by exact hgd) (by exact hr.mono (by decide)) (by exact tk) T.g__law_draw T.F__law_draw.kp T.b__law_draw (by rfl) (sa_cons (se_int).sub sa_nil))).sub (se_int).sub (nomark _)) (ss_one (st_set 3 (se_bin op_sub p_sub ((se_bin op_sub p_sub ((se_callB (call_minA (by exact hr.units) (by rfl)) q_min (by rfl) T.z_min (by decide +kernel) (sa_cons ((se_var 1)).sub sa_nil))).sub (se_int).sub)).sub ((se_callI 0 (G__law_draw T) (by exact hgd) (by exact hr.mono (by decide)) (by exact tk) T.g__law_draw T.F__law_draw.kp T.b__law_draw (by rfl) (sa_cons (se_int).sub sa_nil))).sub) nd)) ss_nil) (ss_cons (st_set 4 (se_lst (sa_cons ((se_bin op_plus p_add ((se_bin op_plus p_add ((se_slice ((se_var 1)).sub so_none (so_some ((se_var 2)).sub))).sub ((se_lst (sa_cons ((se_var 3)).sub sa_nil))).sub)).sub ((se_slice ((se_var 1)).sub (so_some ((se_var 2)).sub) so_none)).sub)).sub sa_nil)) nd) (ss_cons (st_set 4 (se_bin op_plus p_add ((se_var 4)).sub ((se_lst (sa_cons ((se_bin op_plus p_add ((se_var 1)).sub ((se_lst (sa_cons ((se_ix ix_seq p_ix ((se_var 1)).sub ((se_un un_neg p_neg (se_int).sub)).sub (fun _ _ => rfl))).sub sa_nil))).sub)).sub (sa_cons ((se_bin op_plus p_add ((se_lst (sa_cons (se_int).sub sa_nil))).sub ((se_var 1)).sub)).sub sa_nil)))).sub) nd) (ss_cons (st_expr (se_append 4 ((se_comp (vs := [5]) (si_seq ((se_var 1)).sub) (fun _ _ _ _ _ => (sg_name 5 nd)) (fun _ _ _ _ _ => sts_nil) (fun _ _ _ _ _ => ((se_bin op_plus p_add ((se_var 5)).sub (se_int).sub)).sub) (by decide) fun _ _ _ _ pi pg pt pe => pe_lc (own := [("place", 5)]) (by rfl) nd pi (blkOk_by (own := [("place", 5)]) (N := N__law_changed) (sc := defScope s__law_changed) (by decide +kernel)) pg pt pe)).sub fun t pt => pe_bm PySem.F.plainAttrs_list PySem.F.slot_list_append PySem.F.type_list_append mt_append (pv 4) (pa_cons pt pa_nil))) (ss_cons (st_expr (se_append 4 ((se_comp (vs := [5]) (si_seq ((se_var 1)).sub) (fun _ _ _ _ _ => (sg_name 5 nd)) (fun _ _ _ _ _ => sts_nil) (fun _ _ _ _ _ => ((se_bin op_sub p_sub ((se_var 5)).sub (se_int).sub)).sub) (by decide) fun _ _ _ _ pi pg pt pe => pe_lc (own := [("place", 5)]) (by rfl) nd pi (blkOk_by (own := [("place", 5)]) (N := N__law_changed) (sc := defScope s__law_changed) (by decide +kernel)) pg pt pe)).sub fun t pt => pe_bm PySem.F.plainAttrs_list PySem.F.slot_list_append PySem.F.type_list_append mt_append (pv 4) (pa_cons pt pa_nil))) (ss_one (st_ret (se_var 4))))))))))
theorem G__law_beyond (T : Txt K mg ad ca ia fd fi tk) : FnG P w K mg base 2 (ad 25) (fd 25) ["pool", "places"] (spI K mg m__law_beyond 1) := by
  refine fnI T.F__law_beyond sc__law_beyond rfl rfl fun cdv A outer s H E hgd hr => ?_
  have nd := sc__law_beyond.nd
  have hr : Room 1 (cxOf (L2.CX P w) P w K mg base N__law_beyond "_law_beyond" (defScope s__law_beyond) (ad 25) cdv A outer s H E).A := hr
  have tk : Takes (cxOf (L2.CX P w) P w K mg base N__law_beyond "_law_beyond" (defScope s__law_beyond) (ad 25) cdv A outer s H E) (fun cls d _ G => E cls d G) := takes_of rfl rfl rfl rfl
  unfold b__law_beyond
  exact (ss_cons (st_set 2 (se_callI 0 (G__law_draw T) (by exact hgd) (by exact hr.mono (by decide)) (by exact tk) T.g__law_draw T.F__law_draw.kp T.b__law_draw (by rfl) (sa_cons ((se_bin op_pow p_pow (se_int).sub (se_int).sub)).sub sa_nil)) nd) (ss_cons (st_set 3 (se_ix ix_seq p_ix ((se_lst (sa_cons ((se_un un_neg p_neg (se_int).sub)).sub (sa_cons (se_int).sub (sa_cons ((se_bin op_sub p_sub ((se_un un_neg p_neg (se_int).sub)).sub ((se_var 2)).sub)).sub (sa_cons ((se_bin op_plus p_add (se_int).sub ((se_var 2)).sub)).sub sa_nil)))))).sub ((se_callI 0 (G__law_draw T) (by exact hgd) (by exact hr.mono (by decide)) (by exact tk) T.g__law_draw T.F__law_draw.kp T.b__law_draw (by rfl) (sa_cons (se_int).sub sa_nil))).sub (fun _ _ => rfl)) nd) (ss_cons (st_set 4 (se_callI 0 (G__law_draw T) (by exact hgd) (by exact hr.mono (by decide)) (by exact tk) T.g__law_draw T.F__law_draw.kp T.b__law_draw (by rfl) (sa_cons ((se_bin op_plus p_add ((se_callB call_lenA q_len (by rfl) T.z_len PySem.boot_len (sa_cons ((se_var 1)).sub sa_nil))).sub (se_int).sub)).sub sa_nil)) nd) (ss_cons (st_set 5 (se_bin op_plus p_add ((se_slice ((se_var 1)).sub so_none (so_some ((se_var 4)).sub))).sub ((se_lst (sa_cons ((se_var 3)).sub sa_nil))).sub) nd) (ss_cons (st_set 6 (se_bin op_plus p_add (se_int).sub ((se_callI 0 (G__law_draw T) (by exact hgd) (by exact hr.mono (by decide)) (by exact tk) T.g__law_draw T.F__law_draw.kp T.b__law_draw (by rfl) (sa_cons (se_int).sub sa_nil))).sub) nd) (ss_cons (st_set 7 (se_lst (sa_cons ((se_bin op_plus p_add ((se_var 5)).sub ((se_slice ((se_var 1)).sub (so_some ((se_var 4)).sub) so_none)).sub)).sub (sa_cons ((se_bin op_plus p_add ((se_bin op_plus p_add ((se_var 5)).sub ((se_lst (sa_cons ((se_un un_neg p_neg ((se_var 3)).sub)).sub sa_nil))).sub)).sub ((se_slice ((se_var 1)).sub (so_some ((se_var 4)).sub) so_none)).sub)).sub (sa_cons ((se_lst sa_nil)).sub sa_nil)))) nd) (ss_cons (st_expr (se_append 7 ((se_comp (vs := [8]) (si_range1 (by rfl) T.z_range (sa_cons ((se_var 6)).sub sa_nil)) (fun _ _ _ _ _ => (sg_name 8 nd)) (fun _ _ _ _ _ => sts_nil) (fun _ _ _ _ _ => (se_int).sub) (by decide) fun _ _ _ _ pi pg pt pe => pe_lc (own := [("k", 8)]) (by rfl) nd pi (blkOk_by (own := [("k", 8)]) (N := N__law_beyond) (sc := defScope s__law_beyond) (by decide +kernel)) pg pt pe)).sub fun t pt => pe_bm PySem.F.plainAttrs_list PySem.F.slot_list_append PySem.F.type_list_append mt_append (pv 7) (pa_cons pt pa_nil))) (ss_cons (st_expr (se_append 7 ((se_comp (vs := [8]) (si_range1 (by rfl) T.z_range (sa_cons ((se_var 6)).sub sa_nil)) (fun _ _ _ _ _ => (sg_name 8 nd)) (fun _ _ _ _ _ => sts_nil) (fun _ _ _ _ _ => ((se_var 3)).sub) (by decide) fun _ _ _ _ pi pg pt pe => pe_lc (own := [("k", 8)]) (by rfl) nd pi (blkOk_by (own := [("k", 8)]) (N := N__law_beyond) (sc := defScope s__law_beyond) (by decide +kernel)) pg pt pe)).sub fun t pt => pe_bm PySem.F.plainAttrs_list PySem.F.slot_list_append PySem.F.type_list_append mt_append (pv 7) (pa_cons pt pa_nil))) (ss_one (st_ret (se_var 7)))))))))))
theorem G_check_number (T : Txt K mg ad ca ia fd fi tk) : FnG P w K mg base 3 (ad 0) (fd 0) ["number", "least", "most"] (spF K mg m_check_number 3) := by
  refine fnF T.F_check_number sc_check_number rfl rfl fun cdv A outer s H E hgd hr => ?_
  have nd := sc_check_number.nd
  have hr : Room 2 (cxOf (L2.CX P w) P w K mg base N_check_number "check_number" (defScope s_check_number) (ad 0) cdv A outer s H E).A := hr
  have tk : Takes (cxOf (L2.CX P w) P w K mg base N_check_number "check_number" (defScope s_check_number) (ad 0) cdv A outer s H E) (fun cls d _ G => E cls d G) := takes_of rfl rfl rfl rfl
  unfold b_check_number
  exact (ss_one (st_if ((sw_or (st_cmp op_lt p_ord ((se_var 0)).sub ((se_var 1)).sub (nomark _)) (sw_or1 (st_cmp op_gt p_ord ((se_var 0)).sub ((se_var 2)).sub (nomark _))))).tt (ss_one (st_raise T.oc_NumberError T.ic_NumberError T.it_NumberError (I_NumberError T) (by intro f hf; rw [List.mem_singleton] at hf; subst hf; exact T.no_NumberError) (hr.mono (by decide)) T.bi_NumberError tk (by rfl) (by rfl) T.gc_NumberError (sa_cons ((se_var 0)).sub sa_nil) (by decide))) ss_nil))
theorem G_check_size (T : Txt K mg ad ca ia fd fi tk) : FnG P w K mg base 3 (ad 1) (fd 1) ["count", "least", "most"] (spF K mg m_check_size 3) := by
  refine fnF T.F_check_size sc_check_size rfl rfl fun cdv A outer s H E hgd hr => ?_
  have nd := sc_check_size.nd
  have hr : Room 2 (cxOf (L2.CX P w) P w K mg base N_check_size "check_size" (defScope s_check_size) (ad 1) cdv A outer s H E).A := hr
  have tk : Takes (cxOf (L2.CX P w) P w K mg base N_check_size "check_size" (defScope s_check_size) (ad 1) cdv A outer s H E) (fun cls d _ G => E cls d G) := takes_of rfl rfl rfl rfl
  unfold b_check_size
  exact (ss_one (st_if ((sw_or (st_cmp op_lt p_ord ((se_var 0)).sub ((se_var 1)).sub (nomark _)) (sw_or1 (st_cmp op_gt p_ord ((se_var 0)).sub ((se_var 2)).sub (nomark _))))).tt (ss_one (st_raise T.oc_SizeError T.ic_SizeError T.it_SizeError (I_SizeError T) (by intro f hf; rw [List.mem_singleton] at hf; subst hf; exact T.no_SizeError) (hr.mono (by decide)) T.bi_SizeError tk (by rfl) (by rfl) T.gc_SizeError (sa_cons ((se_var 0)).sub sa_nil) (by decide))) ss_nil))
theorem G_check_places (T : Txt K mg ad ca ia fd fi tk) : FnG P w K mg base 4 (ad 2) (fd 2) ["places"] (spF K mg m_check_places 1) := by
  refine fnF T.F_check_places sc_check_places rfl rfl fun cdv A outer s H E hgd hr => ?_
  have nd := sc_check_places.nd
  have hr : Room 3 (cxOf (L2.CX P w) P w K mg base N_check_places "check_places" (defScope s_check_places) (ad 2) cdv A outer s H E).A := hr
  have tk : Takes (cxOf (L2.CX P w) P w K mg base N_check_places "check_places" (defScope s_check_places) (ad 2) cdv A outer s H E) (fun cls d _ G => E cls d G) := takes_of rfl rfl rfl rfl
  unfold b_check_places
  exact (ss_cons (st_expr (se_call (G_check_size T) (by exact hgd) (by exact hr.mono (by decide)) (by exact tk) T.g_check_size T.F_check_size.kp T.b_check_size (by rfl) (sa_cons ((se_callB call_lenA q_len (by rfl) T.z_len PySem.boot_len (sa_cons ((se_var 0)).sub sa_nil))).sub (sa_cons (se_int).sub (sa_cons ((se_glob (d := .int 60) (v := .int 60) (by rfl) T.c_MOST ⟨_, rfl⟩ (fun _ => .int _))).sub sa_nil))))) (ss_one (st_for (si_seq ((se_var 0)).sub) (sg_name 1 nd) (ss_one (st_expr (se_call (G_check_number T) (by exact hgd) (by exact hr.mono (by decide)) (by exact tk) T.g_check_number T.F_check_number.kp T.b_check_number (by rfl) (sa_cons ((se_var 1)).sub (sa_cons ((se_un un_neg p_neg ((se_glob (d := .int 60) (v := .int 60) (by rfl) T.c_MOST ⟨_, rfl⟩ (fun _ => .int _))).sub)).sub (sa_cons ((se_glob (d := .int 60) (v := .int 60) (by rfl) T.c_MOST ⟨_, rfl⟩ (fun _ => .int _))).sub sa_nil)))))) (passes_of (by rfl)) (by rfl))))
theorem G_is_pyramid (T : Txt K mg ad ca ia fd fi tk) : FnG P w K mg base 5 (ad 7) (fd 7) ["places"] (spF K mg m_is_pyramid 1) := by
  refine fnF T.F_is_pyramid sc_is_pyramid rfl rfl fun cdv A outer s H E hgd hr => ?_
  have nd := sc_is_pyramid.nd
  have hr : Room 4 (cxOf (L2.CX P w) P w K mg base N_is_pyramid "is_pyramid" (defScope s_is_pyramid) (ad 7) cdv A outer s H E).A := hr
  have tk : Takes (cxOf (L2.CX P w) P w K mg base N_is_pyramid "is_pyramid" (defScope s_is_pyramid) (ad 7) cdv A outer s H E) (fun cls d _ G => E cls d G) := takes_of rfl rfl rfl rfl
  unfold b_is_pyramid
  exact (ss_cons (st_expr (se_call (G_check_places T) (by exact hgd) (by exact hr.mono (by decide)) (by exact tk) T.g_check_places T.F_check_places.kp T.b_check_places (by rfl) (sa_cons ((se_var 0)).sub sa_nil))) (ss_one (st_ret (se_cmp op_isN p_isN ((se_call (G_first_astray T) (by exact hgd) (by exact hr.mono (by decide)) (by exact tk) T.g_first_astray T.F_first_astray.kp T.b_first_astray (by rfl) (sa_cons ((se_var 0)).sub sa_nil))).sub (se_non).sub (nomark _)))))
theorem G_is_strict (T : Txt K mg ad ca ia fd fi tk) : FnG P w K mg base 5 (ad 8) (fd 8) ["places"] (spF K mg m_is_strict 1) := by
  refine fnF T.F_is_strict sc_is_strict rfl rfl fun cdv A outer s H E hgd hr => ?_
  have nd := sc_is_strict.nd
  have hr : Room 4 (cxOf (L2.CX P w) P w K mg base N_is_strict "is_strict" (defScope s_is_strict) (ad 8) cdv A outer s H E).A := hr
  have tk : Takes (cxOf (L2.CX P w) P w K mg base N_is_strict "is_strict" (defScope s_is_strict) (ad 8) cdv A outer s H E) (fun cls d _ G => E cls d G) := takes_of rfl rfl rfl rfl
  unfold b_is_strict
  exact (ss_cons (st_expr (se_call (G_check_places T) (by exact hgd) (by exact hr.mono (by decide)) (by exact tk) T.g_check_places T.F_check_places.kp T.b_check_places (by rfl) (sa_cons ((se_var 0)).sub sa_nil))) (ss_cons (st_set 1 se_dct nd) (ss_cons (st_for (si_seq ((se_var 0)).sub) (sg_name 2 nd) (ss_cons (st_if (st_tru ((se_get2 ((se_var 1)).sub ((se_var 2)).sub (se_bl).sub fun _ _ _ pa pb pc => pe_dget2 (by exact hu_of hr) pa pb pc ⟨by rfl, by rfl, by rfl, by rfl⟩)).sub) (ss_one (st_ret se_bl)) ss_nil) (ss_cons (st_put 1 (se_bl).sub ((se_var 2)).sub fun _ _ pe pi => ps_dput (by exact hu_of hr) (pv 1) pi pe (by rfl)) (ss_cons (st_put 1 (se_bl).sub ((se_bin op_sub p_sub ((se_var 2)).sub (se_int).sub)).sub fun _ _ pe pi => ps_dput (by exact hu_of hr) (pv 1) pi pe (by rfl)) (ss_one (st_put 1 (se_bl).sub ((se_bin op_plus p_add ((se_var 2)).sub (se_int).sub)).sub fun _ _ pe pi => ps_dput (by exact hu_of hr) (pv 1) pi pe (by rfl)))))) (passes_of (by rfl)) (by rfl)) (ss_one (st_ret (se_cmp op_isN p_isN ((se_call (G_first_astray T) (by exact hgd) (by exact hr.mono (by decide)) (by exact tk) T.g_first_astray T.F_first_astray.kp T.b_first_astray (by rfl) (sa_cons ((se_var 0)).sub sa_nil))).sub (se_non).sub (nomark _)))))))
theorem G_is_half (T : Txt K mg ad ca ia fd fi tk) : FnG P w K mg base 5 (ad 9) (fd 9) ["places"] (spF K mg m_is_half 1) := by
  refine fnF T.F_is_half sc_is_half rfl rfl fun cdv A outer s H E hgd hr => ?_
  have nd := sc_is_half.nd
  have hr : Room 4 (cxOf (L2.CX P w) P w K mg base N_is_half "is_half" (defScope s_is_half) (ad 9) cdv A outer s H E).A := hr
  have tk : Takes (cxOf (L2.CX P w) P w K mg base N_is_half "is_half" (defScope s_is_half) (ad 9) cdv A outer s H E) (fun cls d _ G => E cls d G) := takes_of rfl rfl rfl rfl
  unfold b_is_half
  exact (ss_cons (st_expr (se_call (G_check_places T) (by exact hgd) (by exact hr.mono (by decide)) (by exact tk) T.g_check_places T.F_check_places.kp T.b_check_places (by rfl) (sa_cons ((se_var 0)).sub sa_nil))) (ss_one (st_ret (se_and (se_cmp op_isN p_isN ((se_call (G_first_astray T) (by exact hgd) (by exact hr.mono (by decide)) (by exact tk) T.g_first_astray T.F_first_astray.kp T.b_first_astray (by rfl) (sa_cons ((se_var 0)).sub sa_nil))).sub (se_non).sub (nomark _)) (se_one (se_cmp op_ge p_ord ((se_callB (call_minA (by exact hr.units) (by rfl)) q_min (by rfl) T.z_min (by decide +kernel) (sa_cons ((se_var 0)).sub sa_nil))).sub (se_int).sub (nomark _)))))))
theorem G_levels (T : Txt K mg ad ca ia fd fi tk) : FnG P w K mg base 5 (ad 10) (fd 10) ["places"] (spF K mg m_levels 1) := by
  refine fnF T.F_levels sc_levels rfl rfl fun cdv A outer s H E hgd hr => ?_
  have nd := sc_levels.nd
  have hr : Room 4 (cxOf (L2.CX P w) P w K mg base N_levels "levels" (defScope s_levels) (ad 10) cdv A outer s H E).A := hr
  have tk : Takes (cxOf (L2.CX P w) P w K mg base N_levels "levels" (defScope s_levels) (ad 10) cdv A outer s H E) (fun cls d _ G => E cls d G) := takes_of rfl rfl rfl rfl
  unfold b_levels
  exact (ss_cons (st_expr (se_call (G_check_places T) (by exact hgd) (by exact hr.mono (by decide)) (by exact tk) T.g_check_places T.F_check_places.kp T.b_check_places (by rfl) (sa_cons ((se_var 0)).sub sa_nil))) (ss_cons (st_set 1 (se_call (G_first_astray T) (by exact hgd) (by exact hr.mono (by decide)) (by exact tk) T.g_first_astray T.F_first_astray.kp T.b_first_astray (by rfl) (sa_cons ((se_var 0)).sub sa_nil)) nd) (ss_cons (st_if (st_cmp op_notN p_notN ((se_var 1)).sub (se_non).sub (nomark _)) (ss_one (st_raise T.oc_RootError T.ic_RootError T.it_RootError (I_RootError T) (by intro f hf; simp only [List.mem_cons, List.not_mem_nil, or_false] at hf; rcases hf with rfl | rfl; exact T.no_RootError.1; exact T.no_RootError.2) (hr.mono (by decide)) T.bi_RootError tk (by rfl) (by rfl) T.gc_RootError (sa_cons ((se_var 1)).sub (sa_cons ((se_ix ix_seq p_ix ((se_var 0)).sub ((se_var 1)).sub (fun _ _ => rfl))).sub sa_nil)) (by decide))) ss_nil) (ss_one (st_ret (se_call (G_drop T) (by exact hgd) (by exact hr.mono (by decide)) (by exact tk) T.g_drop T.F_drop.kp T.b_drop (by rfl) (sa_cons ((se_var 0)).sub sa_nil)))))))
theorem G_pushed (T : Txt K mg ad ca ia fd fi tk) : FnG P w K mg base 5 (ad 11) (fd 11) ["places", "at"] (spF K mg m_pushed 2) := by
  refine fnF T.F_pushed sc_pushed rfl rfl fun cdv A outer s H E hgd hr => ?_
  have nd := sc_pushed.nd
  have hr : Room 4 (cxOf (L2.CX P w) P w K mg base N_pushed "pushed" (defScope s_pushed) (ad 11) cdv A outer s H E).A := hr
  have tk : Takes (cxOf (L2.CX P w) P w K mg base N_pushed "pushed" (defScope s_pushed) (ad 11) cdv A outer s H E) (fun cls d _ G => E cls d G) := takes_of rfl rfl rfl rfl
  unfold b_pushed
  exact (ss_cons (st_expr (se_call (G_check_places T) (by exact hgd) (by exact hr.mono (by decide)) (by exact tk) T.g_check_places T.F_check_places.kp T.b_check_places (by rfl) (sa_cons ((se_var 0)).sub sa_nil))) (ss_cons (st_expr (se_call (G_check_number T) (by exact hgd) (by exact hr.mono (by decide)) (by exact tk) T.g_check_number T.F_check_number.kp T.b_check_number (by rfl) (sa_cons ((se_var 1)).sub (sa_cons (se_int).sub (sa_cons ((se_bin op_sub p_sub ((se_callB call_lenA q_len (by rfl) T.z_len PySem.boot_len (sa_cons ((se_var 0)).sub sa_nil))).sub (se_int).sub)).sub sa_nil))))) (ss_one (st_ret (se_call (G_split_at T) (by exact hgd) (by exact hr.mono (by decide)) (by exact tk) T.g_split_at T.F_split_at.kp T.b_split_at (by rfl) (sa_cons ((se_var 0)).sub (sa_cons ((se_var 1)).sub sa_nil)))))))
theorem G__law_ask (T : Txt K mg ad ca ia fd fi tk) : FnG P w K mg base 6 (ad 19) (fd 19) ["which", "places", "at"] (spF K mg m__law_ask 3) := by
  refine fnF T.F__law_ask sc__law_ask rfl rfl fun cdv A outer s H E hgd hr => ?_
  have nd := sc__law_ask.nd
  have hr : Room 5 (cxOf (L2.CX P w) P w K mg base N__law_ask "_law_ask" (defScope s__law_ask) (ad 19) cdv A outer s H E).A := hr
  have tk : Takes (cxOf (L2.CX P w) P w K mg base N__law_ask "_law_ask" (defScope s__law_ask) (ad 19) cdv A outer s H E) (fun cls d _ G => E cls d G) := takes_of rfl rfl rfl rfl
  unfold b__law_ask
  exact (ss_cons (st_try (by rfl) (by rfl) nd tk (fun w pn xe tk po => (ss_one (st_if (st_cmp (op_equ (by exact hr.units)) p_eq ((se_var 0)).sub (se_int).sub (nomark _)) (ss_one (st_set 3 (se_call (G_is_pyramid T) (by exact hgd) (by exact hr.mono (by decide)) (by exact tk) T.g_is_pyramid T.F_is_pyramid.kp T.b_is_pyramid (by rfl) (sa_cons ((se_var 1)).sub sa_nil)) nd)) (ss_one (st_if (st_cmp (op_equ (by exact hr.units)) p_eq ((se_var 0)).sub (se_int).sub (nomark _)) (ss_one (st_set 3 (se_call (G_is_strict T) (by exact hgd) (by exact hr.mono (by decide)) (by exact tk) T.g_is_strict T.F_is_strict.kp T.b_is_strict (by rfl) (sa_cons ((se_var 1)).sub sa_nil)) nd)) (ss_one (st_if (st_cmp (op_equ (by exact hr.units)) p_eq ((se_var 0)).sub (se_int).sub (nomark _)) (ss_one (st_set 3 (se_call (G_is_half T) (by exact hgd) (by exact hr.mono (by decide)) (by exact tk) T.g_is_half T.F_is_half.kp T.b_is_half (by rfl) (sa_cons ((se_var 1)).sub sa_nil)) nd)) (ss_one (st_if (st_cmp (op_equ (by exact hr.units)) p_eq ((se_var 0)).sub (se_int).sub (nomark _)) (ss_one (st_set 3 (se_call (G_levels T) (by exact hgd) (by exact hr.mono (by decide)) (by exact tk) T.g_levels T.F_levels.kp T.b_levels (by rfl) (sa_cons ((se_var 1)).sub sa_nil)) nd)) (ss_one (st_set 3 (se_call (G_pushed T) (by exact hgd) (by exact hr.mono (by decide)) (by exact tk) T.g_pushed T.F_pushed.kp T.b_pushed (by rfl) (sa_cons ((se_var 1)).sub (sa_cons ((se_var 2)).sub sa_nil))) nd))))))))))) (.cons ⟨by rfl, by decide, .inl T.gc_RootError⟩ ⟨by rfl, by rfl⟩ (fun n C b hn hb => T.ex.exm hn T.gc_RootError hb) (fun a oe cls d pn er hz hf => (ss_one (st_ret (se_lst (sa_cons (se_str).sub (sa_cons ((se_xf 4 T.ex hz hf)).sub (sa_cons ((se_xf 4 T.ex hz hf)).sub (sa_cons ((se_isL 4 T.ex (.cons (by rfl) T.gc_NumberError (by decide) (by rfl) (.cons (by rfl) T.gc_SizeError (by decide) (by rfl) (.cons (by rfl) T.gc_WordError (by decide) (by rfl) .nil))) hz hf (by rfl) T.z_isinstance (by show 3 ≤ 1000; decide))).sub sa_nil)))))))) (.cons ⟨by rfl, by decide, .inl T.gc_NumberError⟩ ⟨by rfl, by rfl⟩ (fun n C b hn hb => T.ex.exm hn T.gc_NumberError hb) (fun a oe cls d pn er hz hf => (ss_one (st_ret (se_lst (sa_cons (se_str).sub (sa_cons ((se_xf 4 T.ex hz hf)).sub (sa_cons ((se_isL 4 T.ex (.cons (by rfl) T.gc_RootError (by decide) (by rfl) (.cons (by rfl) T.gc_SizeError (by decide) (by rfl) (.cons (by rfl) T.gc_WordError (by decide) (by rfl) .nil))) hz hf (by rfl) T.z_isinstance (by show 3 ≤ 1000; decide))).sub sa_nil))))))) (.cons ⟨by rfl, by decide, .inl T.gc_SizeError⟩ ⟨by rfl, by rfl⟩ (fun n C b hn hb => T.ex.exm hn T.gc_SizeError hb) (fun a oe cls d pn er hz hf => (ss_one (st_ret (se_lst (sa_cons (se_str).sub (sa_cons ((se_xf 4 T.ex hz hf)).sub (sa_cons ((se_isL 4 T.ex (.cons (by rfl) T.gc_NumberError (by decide) (by rfl) (.cons (by rfl) T.gc_RootError (by decide) (by rfl) (.cons (by rfl) T.gc_WordError (by decide) (by rfl) .nil))) hz hf (by rfl) T.z_isinstance (by show 3 ≤ 1000; decide))).sub sa_nil))))))) (.cons ⟨by rfl, by decide, .inl T.gc_RimmachinesError⟩ trivial (fun n C b hn hb => T.ex.exm hn T.gc_RimmachinesError hb) (fun a oe cls d pn er hz hf => (ss_one (st_ret (se_lst (sa_cons (se_str).sub sa_nil))))) .nil))))) (ss_one (st_ret (se_lstO (sa_cons (se_str).sub (sa_cons ((se_var 3)).sub sa_nil))))))
theorem G__law_heap (T : Txt K mg ad ca ia fd fi tk) : FnG P w K mg base 7 (ad 20) (fd 20) ["places", "at"] (spF K mg m__law_heap 2) := by
  refine fnF T.F__law_heap sc__law_heap rfl rfl fun cdv A outer s H E hgd hr => ?_
  have nd := sc__law_heap.nd
  have hr : Room 6 (cxOf (L2.CX P w) P w K mg base N__law_heap "_law_heap" (defScope s__law_heap) (ad 20) cdv A outer s H E).A := hr
  have tk : Takes (cxOf (L2.CX P w) P w K mg base N__law_heap "_law_heap" (defScope s__law_heap) (ad 20) cdv A outer s H E) (fun cls d _ G => E cls d G) := takes_of rfl rfl rfl rfl
  unfold b__law_heap
  exact (ss_cons (st_for (si_range1 (by rfl) T.z_range (sa_cons (se_int).sub sa_nil)) (sg_name 2 nd) (ss_cons (st_set 3 (se_call (G__law_due T) (by exact hgd) (by exact hr.mono (by decide)) (by exact tk) T.g__law_due T.F__law_due.kp T.b__law_due (by rfl) (sa_cons ((se_var 2)).sub (sa_cons ((se_var 0)).sub (sa_cons ((se_var 1)).sub sa_nil)))) nd) (ss_cons (st_set 4 (se_callTy call_list_of q_list (by rfl) T.z_list (by decide +kernel) (sa_cons ((se_var 0)).sub sa_nil)) nd) (ss_cons (st_set 5 (se_call (G__law_ask T) (by exact hgd) (by exact hr.mono (by decide)) (by exact tk) T.g__law_ask T.F__law_ask.kp T.b__law_ask (by rfl) (sa_cons ((se_var 2)).sub (sa_cons ((se_var 4)).sub (sa_cons ((se_var 1)).sub sa_nil)))) nd) (ss_cons (st_if ((sw_or (st_not (st_tru ((SE.rd (se_call (G__law_same T) (by exact hgd) (by exact hr.mono (by decide)) (by exact tk) T.g__law_same T.F__law_same.kp T.b__law_same (by rfl) (sa_cons ((se_var 5)).sub (sa_cons ((se_var 3)).sub sa_nil))) wok_of)).sub)) (sw_or1 (st_not (st_tru ((SE.rd (se_call (G__law_same T) (by exact hgd) (by exact hr.mono (by decide)) (by exact tk) T.g__law_same T.F__law_same.kp T.b__law_same (by rfl) (sa_cons ((se_var 4)).sub (sa_cons ((se_var 0)).sub sa_nil))) wok_of)).sub))))).tt (ss_one (st_ret se_bl)) ss_nil) (ss_cons (st_if ((sw_and (st_cmp (op_equ (by exact hr.units)) p_eq ((se_var 2)).sub (se_int).sub (nomark _)) (sw_and1 (st_cmp (op_equ (by exact hr.units)) p_eq ((se_ix ix_seq p_ix ((se_var 3)).sub (se_int).sub (fun _ _ => rfl))).sub (se_str).sub (nomark _))))).tt (ss_one (st_expr (se_appendP 5 (sp_ix (sp_name 5) sx_int (fun _ _ => rfl)) (se_int).sub wh_of fun tb t pb pt => pe_bm PySem.F.plainAttrs_list PySem.F.slot_list_append PySem.F.type_list_append mt_append pb (pa_cons pt pa_nil)))) ss_nil) (ss_cons (st_if ((sw_and (st_cmp (op_equ (by exact hr.units)) p_eq ((se_var 2)).sub (se_int).sub (nomark _)) (sw_and1 (st_cmp (op_equ (by exact hr.units)) p_eq ((se_ix ix_seq p_ix ((se_var 3)).sub (se_int).sub (fun _ _ => rfl))).sub (se_str).sub (nomark _))))).tt (ss_cons (st_expr (se_appendP 5 (sp_ix (sp_ix (sp_name 5) sx_int (fun _ _ => rfl)) sx_int (fun _ _ => rfl)) (se_int).sub wh_of fun tb t pb pt => pe_bm PySem.F.plainAttrs_list PySem.F.slot_list_append PySem.F.type_list_append mt_append pb (pa_cons pt pa_nil))) (ss_one (st_expr (se_appendP 5 (sp_ix (sp_ix (sp_name 5) sx_int (fun _ _ => rfl)) sx_int (fun _ _ => rfl)) (se_int).sub wh_of fun tb t pb pt => pe_bm PySem.F.plainAttrs_list PySem.F.slot_list_append PySem.F.type_list_append mt_append pb (pa_cons pt pa_nil))))) ss_nil) (ss_one (st_if (st_not (st_tru ((SE.rd (se_call (G__law_same T) (by exact hgd) (by exact hr.mono (by decide)) (by exact tk) T.g__law_same T.F__law_same.kp T.b__law_same (by rfl) (sa_cons ((se_call (G__law_ask T) (by exact hgd) (by exact hr.mono (by decide)) (by exact tk) T.g__law_ask T.F__law_ask.kp T.b__law_ask (by rfl) (sa_cons ((se_var 2)).sub (sa_cons ((se_callTy call_tuple_of q_tuple (by rfl) T.z_tuple (by decide +kernel) (sa_cons ((se_var 0)).sub sa_nil))).sub (sa_cons ((se_var 1)).sub sa_nil))))).sub (sa_cons ((se_var 3)).sub sa_nil))) wok_of)).sub)) (ss_one (st_ret se_bl)) ss_nil)))))))) (passes_of (by rfl)) (by rfl)) (ss_one (st_ret se_bl)))
theorem G_law (T : Txt K mg ad ca ia fd fi tk) : FnG P w K mg base 8 (ad 26) (fd 26) ["script"] (spF K mg m_law 1) := by
  refine fnF T.F_law sc_law rfl rfl fun cdv A outer s H E hgd hr => ?_
  have nd := sc_law.nd
  have hr : Room 7 (cxOf (L2.CX P w) P w K mg base N_law "law" (defScope s_law) (ad 26) cdv A outer s H E).A := hr
  have tk : Takes (cxOf (L2.CX P w) P w K mg base N_law "law" (defScope s_law) (ad 26) cdv A outer s H E) (fun cls d _ G => E cls d G) := takes_of rfl rfl rfl rfl
  unfold b_law
  exact (ss_cons (st_set 1 (se_call (G__law_pool T) (by exact hgd) (by exact hr.mono (by decide)) (by exact tk) T.g__law_pool T.F__law_pool.kp T.b__law_pool (by rfl) (sa_cons ((se_var 0)).sub sa_nil)) nd) (ss_cons (st_set 2 (se_callI 1 (G__law_pyramid T) (by exact hgd) (by exact hr.mono (by decide)) (by exact tk) T.g__law_pyramid T.F__law_pyramid.kp T.b__law_pyramid (by rfl) (sa_cons ((se_bin op_plus p_add (se_int).sub ((se_callI 1 (G__law_draw T) (by exact hgd) (by exact hr.mono (by decide)) (by exact tk) T.g__law_draw T.F__law_draw.kp T.b__law_draw (by rfl) (sa_cons (se_int).sub sa_nil))).sub)).sub (sa_cons ((se_un un_neg p_neg (se_int).sub)).sub sa_nil))) nd) (ss_cons (st_set 3 (se_callI 1 (G__law_pyramid T) (by exact hgd) (by exact hr.mono (by decide)) (by exact tk) T.g__law_pyramid T.F__law_pyramid.kp T.b__law_pyramid (by rfl) (sa_cons ((se_bin op_plus p_add (se_int).sub ((se_callI 1 (G__law_draw T) (by exact hgd) (by exact hr.mono (by decide)) (by exact tk) T.g__law_draw T.F__law_draw.kp T.b__law_draw (by rfl) (sa_cons (se_int).sub sa_nil))).sub)).sub (sa_cons (se_int).sub sa_nil))) nd) (ss_cons (st_set 4 (se_callI 1 (G__law_strict_one T) (by exact hgd) (by exact hr.mono (by decide)) (by exact tk) T.g__law_strict_one T.F__law_strict_one.kp T.b__law_strict_one (by rfl) (sa_cons ((se_bin op_plus p_add (se_int).sub ((se_callI 1 (G__law_draw T) (by exact hgd) (by exact hr.mono (by decide)) (by exact tk) T.g__law_draw T.F__law_draw.kp T.b__law_draw (by rfl) (sa_cons (se_int).sub sa_nil))).sub)).sub sa_nil)) nd) (ss_cons (st_set 5 (se_callI 1 (G__law_any T) (by exact hgd) (by exact hr.mono (by decide)) (by exact tk) T.g__law_any T.F__law_any.kp T.b__law_any (by rfl) (sa_cons ((se_bin op_plus p_add (se_int).sub ((se_callI 1 (G__law_draw T) (by exact hgd) (by exact hr.mono (by decide)) (by exact tk) T.g__law_draw T.F__law_draw.kp T.b__law_draw (by rfl) (sa_cons (se_int).sub sa_nil))).sub)).sub sa_nil)) nd) (ss_cons (st_set 6 (se_cmp (op_equ (by exact hr.units)) p_eq ((se_callI 1 (G__law_draw T) (by exact hgd) (by exact hr.mono (by decide)) (by exact tk) T.g__law_draw T.F__law_draw.kp T.b__law_draw (by rfl) (sa_cons (se_int).sub sa_nil))).sub (se_int).sub (nomark _)) nd) (ss_cons (st_set 7 (se_bin op_plus p_add ((se_lst (sa_cons ((se_var 2)).sub (sa_cons ((se_var 3)).sub (sa_cons ((se_var 4)).sub (sa_cons ((se_var 5)).sub sa_nil)))))).sub ((se_callI 1 (G__law_changed T) (by exact hgd) (by exact hr.mono (by decide)) (by exact tk) T.g__law_changed T.F__law_changed.kp T.b__law_changed (by rfl) (sa_cons ((se_var 2)).sub sa_nil))).sub) nd) (ss_cons (st_set 7 (se_bin op_plus p_add ((se_var 7)).sub ((se_callI 1 (G__law_changed T) (by exact hgd) (by exact hr.mono (by decide)) (by exact tk) T.g__law_changed T.F__law_changed.kp T.b__law_changed (by rfl) (sa_cons ((se_var 4)).sub sa_nil))).sub) nd) (ss_cons (st_for (si_seq ((se_bin op_plus p_add ((se_var 7)).sub ((se_callI 1 (G__law_beyond T) (by exact hgd) (by exact hr.mono (by decide)) (by exact tk) T.g__law_beyond T.F__law_beyond.kp T.b__law_beyond (by rfl) (sa_cons ((se_var 3)).sub sa_nil))).sub)).sub) (sg_name 8 nd) (ss_one (st_if (st_not (st_tru ((se_call (G__law_heap T) (by exact hgd) (by exact hr.mono (by decide)) (by exact tk) T.g__law_heap T.F__law_heap.kp T.b__law_heap (by rfl) (sa_cons ((se_var 8)).sub (sa_cons ((se_bin op_sub p_sub ((se_callI 1 (G__law_draw T) (by exact hgd) (by exact hr.mono (by decide)) (by exact tk) T.g__law_draw T.F__law_draw.kp T.b__law_draw (by rfl) (sa_cons ((se_bin op_plus p_add ((se_callB call_lenA q_len (by rfl) T.z_len PySem.boot_len (sa_cons ((se_var 8)).sub sa_nil))).sub (se_int).sub)).sub sa_nil))).sub (se_int).sub)).sub sa_nil)))).sub)) (ss_one (st_ret se_bl)) ss_nil)) (passes_of (by rfl)) (by rfl)) (ss_cons (st_if ((sw_or (st_not (st_tru ((se_call (G__law_heap T) (by exact hgd) (by exact hr.mono (by decide)) (by exact tk) T.g__law_heap T.F__law_heap.kp T.b__law_heap (by rfl) (sa_cons ((se_var 2)).sub (sa_cons ((se_callB call_lenA q_len (by rfl) T.z_len PySem.boot_len (sa_cons ((se_var 2)).sub sa_nil))).sub sa_nil)))).sub)) (sw_or1 (st_not (st_tru ((se_call (G__law_heap T) (by exact hgd) (by exact hr.mono (by decide)) (by exact tk) T.g__law_heap T.F__law_heap.kp T.b__law_heap (by rfl) (sa_cons ((se_var 2)).sub (sa_cons ((se_un un_neg p_neg (se_int).sub)).sub sa_nil)))).sub))))).tt (ss_one (st_ret se_bl)) ss_nil) (ss_cons (st_set 9 (se_bin op_plus p_add ((se_callB call_lenA q_len (by rfl) T.z_len PySem.boot_len (sa_cons ((se_var 2)).sub sa_nil))).sub ((se_callI 1 (G__law_draw T) (by exact hgd) (by exact hr.mono (by decide)) (by exact tk) T.g__law_draw T.F__law_draw.kp T.b__law_draw (by rfl) (sa_cons ((se_bin op_pow p_pow (se_int).sub (se_int).sub)).sub sa_nil))).sub) nd) (ss_cons (st_if ((sw_or (st_not (st_tru ((se_call (G__law_heap T) (by exact hgd) (by exact hr.mono (by decide)) (by exact tk) T.g__law_heap T.F__law_heap.kp T.b__law_heap (by rfl) (sa_cons ((se_var 2)).sub (sa_cons ((se_var 9)).sub sa_nil)))).sub)) (sw_or1 (st_not (st_tru ((se_call (G__law_heap T) (by exact hgd) (by exact hr.mono (by decide)) (by exact tk) T.g__law_heap T.F__law_heap.kp T.b__law_heap (by rfl) (sa_cons ((se_var 2)).sub (sa_cons ((se_bin op_sub p_sub ((se_un un_neg p_neg (se_int).sub)).sub ((se_var 9)).sub)).sub sa_nil)))).sub))))).tt (ss_one (st_ret se_bl)) ss_nil) (ss_cons (st_if (st_tru ((se_var 6)).sub) (ss_cons (st_set 10 (se_callI 1 (G__law_pyramid T) (by exact hgd) (by exact hr.mono (by decide)) (by exact tk) T.g__law_pyramid T.F__law_pyramid.kp T.b__law_pyramid (by rfl) (sa_cons (se_int).sub (sa_cons ((se_un un_neg p_neg (se_int).sub)).sub sa_nil))) nd) (ss_one (st_if (st_not (st_tru ((se_call (G__law_heap T) (by exact hgd) (by exact hr.mono (by decide)) (by exact tk) T.g__law_heap T.F__law_heap.kp T.b__law_heap (by rfl) (sa_cons ((se_var 10)).sub (sa_cons ((se_callI 1 (G__law_draw T) (by exact hgd) (by exact hr.mono (by decide)) (by exact tk) T.g__law_draw T.F__law_draw.kp T.b__law_draw (by rfl) (sa_cons (se_int).sub sa_nil))).sub sa_nil)))).sub)) (ss_one (st_ret se_bl)) ss_nil))) ss_nil) (ss_cons (st_if (st_not (st_tru ((SE.rd (se_call (G__law_same T) (by exact hgd) (by exact hr.mono (by decide)) (by exact tk) T.g__law_same T.F__law_same.kp T.b__law_same (by rfl) (sa_cons ((se_callKw (G_levels T) (by exact hgd) (by exact hr.mono (by decide)) (by exact tk) T.g_levels T.F_levels.kp T.kw_levels (by rfl) (sk_cons ((se_callTy call_tuple_of q_tuple (by rfl) T.z_tuple (by decide +kernel) (sa_cons ((se_var 2)).sub sa_nil))).sub sk_nil))).sub (sa_cons ((se_call (G__law_levels T) (by exact hgd) (by exact hr.mono (by decide)) (by exact tk) T.g__law_levels T.F__law_levels.kp T.b__law_levels (by rfl) (sa_cons ((se_var 2)).sub sa_nil))).sub sa_nil))) wok_of)).sub)) (ss_one (st_ret se_bl)) ss_nil) (ss_one (st_ret (se_and (se_call (G__law_heap T) (by exact hgd) (by exact hr.mono (by decide)) (by exact tk) T.g__law_heap T.F__law_heap.kp T.b__law_heap (by rfl) (sa_cons ((se_var 4)).sub (sa_cons (se_int).sub sa_nil))) (se_one (se_call (G__law_heap T) (by exact hgd) (by exact hr.mono (by decide)) (by exact tk) T.g__law_heap T.F__law_heap.kp T.b__law_heap (by rfl) (sa_cons ((se_var 2)).sub (sa_cons (se_int).sub sa_nil)))))))))))))))))))))
end
theorem all_mk {P : Program} {w : World} {K : PySem.W.Frag} {h : Heap} {mg : Str → Option Value} {fa : Addr} (X : K.In h) (G : h.Ns mainGlobals mg) (hfa : mg "law" = some (.ref fa))
    {f0 f1 f2 f3 f4 f5 f6 f7 f8 f9 f10 f11 f12 f13 f14 f15 f16 f17 f18 f19 f20 f21 f22 f23 f24 f25 f26 fi0 fi1 fi2 C0 C1 C2 C3 C4 : Addr} {od0 an0 od1 an1 od2 an2 od3 an3 od4 an4 od5 an5 od6 an6 od7 an7 od8 an8 od9 an9 od10 an10 od11 an11 od12 an12 od13 an13 od14 an14 od15 an15 od16 an16 od17 an17 od18 an18 od19 an19 od20 an20 od21 an21 od22 an22 od23 an23 od24 an24 od25 an25 od26 an26 odi0 ani0 odi1 ani1 odi2 ani2 : Option Addr} {sl0 sl1 sl2 sl3 sl4 sl5 sl6 sl7 sl8 sl9 sl10 sl11 sl12 sl13 sl14 sl15 sl16 sl17 sl18 sl19 sl20 sl21 sl22 sl23 sl24 sl25 sl26 sli0 sli1 sli2 : Array (Option Value)} {oc0 kV0 dc0 pm0 cd0 ct0 oc1 kV1 dc1 pm1 cd1 ct1 oc2 kV2 dc2 pm2 cd2 ct2 oc3 kV3 dc3 pm3 cd3 ct3 oc4 kV4 dc4 pm4 cd4 ct4 oc5 kV5 dc5 pm5 cd5 ct5 oc6 kV6 dc6 pm6 cd6 ct6 oc7 kV7 dc7 pm7 cd7 ct7 oc8 kV8 dc8 pm8 cd8 ct8 oc9 kV9 dc9 pm9 cd9 ct9 oc10 kV10 dc10 pm10 cd10 ct10 oc11 kV11 dc11 pm11 cd11 ct11 oc12 kV12 dc12 pm12 cd12 ct12 oc13 kV13 dc13 pm13 cd13 ct13 oc14 kV14 dc14 pm14 cd14 ct14 oc15 kV15 dc15 pm15 cd15 ct15 oc16 kV16 dc16 pm16 cd16 ct16 oc17 kV17 dc17 pm17 cd17 ct17 oc18 kV18 dc18 pm18 cd18 ct18 oc19 kV19 dc19 pm19 cd19 ct19 oc20 kV20 dc20 pm20 cd20 ct20 oc21 kV21 dc21 pm21 cd21 ct21 oc22 kV22 dc22 pm22 cd22 ct22 oc23 kV23 dc23 pm23 cd23 ct23 oc24 kV24 dc24 pm24 cd24 ct24 oc25 kV25 dc25 pm25 cd25 ct25 oc26 kV26 dc26 pm26 cd26 ct26 oci0 kVi0 dci0 pmi0 cdi0 cti0 oci1 kVi1 dci1 pmi1 cdi1 cti1 oci2 kVi2 dci2 pmi2 cdi2 cti2 : Value} {tk0 : Tok}
    {nm1 q1 : Str} {N1 : Addr} {bs1 bm1 : List Value} {sn1 : List Str} {sub1 : List Value} {ab1 : Bool} {col1 : Option Bool} {dd1 : Option Addr} {ka0_1 ka1_1 ka2_1 ka3_1 ka5_1 : Option Value}
    {nm2 q2 : Str} {N2 : Addr} {bs2 bm2 : List Value} {sn2 : List Str} {sub2 : List Value} {ab2 : Bool} {col2 : Option Bool} {dd2 : Option Addr} {ka0_2 ka1_2 ka2_2 ka3_2 ka5_2 : Option Value}
    {nm4 q4 : Str} {N4 : Addr} {bs4 bm4 : List Value} {sn4 : List Str} {sub4 : List Value} {ab4 : Bool} {col4 : Option Bool} {dd4 : Option Addr} {ka0_4 ka1_4 ka2_4 ka3_4 ka5_4 : Option Value}
    (a0 : PySem.W.nsIn K mainGlobals "check_number" = some (some (.ref f0)))
    (l0 : K.lookup f0 = some ⟨oc0, od0, .func (PySem.W.fnOf "check_number" "check_number" (defArgs s_check_number) (defBody s_check_number) (defScope s_check_number) .none kV0 dc0 pm0 an0 cd0 ct0), sl0⟩)
    (c0 : PySem.W.codeIn K cd0 "check_number" = true)
    (k0 : PySem.W.keepIn K (.ref f0) = true)
    (a1 : PySem.W.nsIn K mainGlobals "check_size" = some (some (.ref f1)))
    (l1 : K.lookup f1 = some ⟨oc1, od1, .func (PySem.W.fnOf "check_size" "check_size" (defArgs s_check_size) (defBody s_check_size) (defScope s_check_size) .none kV1 dc1 pm1 an1 cd1 ct1), sl1⟩)
    (c1 : PySem.W.codeIn K cd1 "check_size" = true)
    (k1 : PySem.W.keepIn K (.ref f1) = true)
    (a2 : PySem.W.nsIn K mainGlobals "check_places" = some (some (.ref f2)))
    (l2 : K.lookup f2 = some ⟨oc2, od2, .func (PySem.W.fnOf "check_places" "check_places" (defArgs s_check_places) (defBody s_check_places) (defScope s_check_places) .none kV2 dc2 pm2 an2 cd2 ct2), sl2⟩)
    (c2 : PySem.W.codeIn K cd2 "check_places" = true)
    (k2 : PySem.W.keepIn K (.ref f2) = true)
    (a3 : PySem.W.nsIn K mainGlobals "lying_on" = some (some (.ref f3)))
    (l3 : K.lookup f3 = some ⟨oc3, od3, .func (PySem.W.fnOf "lying_on" "lying_on" (defArgs s_lying_on) (defBody s_lying_on) (defScope s_lying_on) .none kV3 dc3 pm3 an3 cd3 ct3), sl3⟩)
    (c3 : PySem.W.codeIn K cd3 "lying_on" = true)
    (k3 : PySem.W.keepIn K (.ref f3) = true)
    (a4 : PySem.W.nsIn K mainGlobals "first_astray" = some (some (.ref f4)))
    (l4 : K.lookup f4 = some ⟨oc4, od4, .func (PySem.W.fnOf "first_astray" "first_astray" (defArgs s_first_astray) (defBody s_first_astray) (defScope s_first_astray) .none kV4 dc4 pm4 an4 cd4 ct4), sl4⟩)
    (c4 : PySem.W.codeIn K cd4 "first_astray" = true)
    (k4 : PySem.W.keepIn K (.ref f4) = true)
    (a5 : PySem.W.nsIn K mainGlobals "drop" = some (some (.ref f5)))
    (l5 : K.lookup f5 = some ⟨oc5, od5, .func (PySem.W.fnOf "drop" "drop" (defArgs s_drop) (defBody s_drop) (defScope s_drop) .none kV5 dc5 pm5 an5 cd5 ct5), sl5⟩)
    (c5 : PySem.W.codeIn K cd5 "drop" = true)
    (k5 : PySem.W.keepIn K (.ref f5) = true)
    (a6 : PySem.W.nsIn K mainGlobals "split_at" = some (some (.ref f6)))
    (l6 : K.lookup f6 = some ⟨oc6, od6, .func (PySem.W.fnOf "split_at" "split_at" (defArgs s_split_at) (defBody s_split_at) (defScope s_split_at) .none kV6 dc6 pm6 an6 cd6 ct6), sl6⟩)
    (c6 : PySem.W.codeIn K cd6 "split_at" = true)
    (k6 : PySem.W.keepIn K (.ref f6) = true)
    (a7 : PySem.W.nsIn K mainGlobals "is_pyramid" = some (some (.ref f7)))
    (l7 : K.lookup f7 = some ⟨oc7, od7, .func (PySem.W.fnOf "is_pyramid" "is_pyramid" (defArgs s_is_pyramid) (defBody s_is_pyramid) (defScope s_is_pyramid) .none kV7 dc7 pm7 an7 cd7 ct7), sl7⟩)
    (c7 : PySem.W.codeIn K cd7 "is_pyramid" = true)
    (k7 : PySem.W.keepIn K (.ref f7) = true)
    (a8 : PySem.W.nsIn K mainGlobals "is_strict" = some (some (.ref f8)))
    (l8 : K.lookup f8 = some ⟨oc8, od8, .func (PySem.W.fnOf "is_strict" "is_strict" (defArgs s_is_strict) (defBody s_is_strict) (defScope s_is_strict) .none kV8 dc8 pm8 an8 cd8 ct8), sl8⟩)
    (c8 : PySem.W.codeIn K cd8 "is_strict" = true)
    (k8 : PySem.W.keepIn K (.ref f8) = true)
    (a9 : PySem.W.nsIn K mainGlobals "is_half" = some (some (.ref f9)))
    (l9 : K.lookup f9 = some ⟨oc9, od9, .func (PySem.W.fnOf "is_half" "is_half" (defArgs s_is_half) (defBody s_is_half) (defScope s_is_half) .none kV9 dc9 pm9 an9 cd9 ct9), sl9⟩)
    (c9 : PySem.W.codeIn K cd9 "is_half" = true)
    (k9 : PySem.W.keepIn K (.ref f9) = true)
    (a10 : PySem.W.nsIn K mainGlobals "levels" = some (some (.ref f10)))
    (l10 : K.lookup f10 = some ⟨oc10, od10, .func (PySem.W.fnOf "levels" "levels" (defArgs s_levels) (defBody s_levels) (defScope s_levels) .none kV10 dc10 pm10 an10 cd10 ct10), sl10⟩)
    (c10 : PySem.W.codeIn K cd10 "levels" = true)
    (k10 : PySem.W.keepIn K (.ref f10) = true)
    (a11 : PySem.W.nsIn K mainGlobals "pushed" = some (some (.ref f11)))
    (l11 : K.lookup f11 = some ⟨oc11, od11, .func (PySem.W.fnOf "pushed" "pushed" (defArgs s_pushed) (defBody s_pushed) (defScope s_pushed) .none kV11 dc11 pm11 an11 cd11 ct11), sl11⟩)
    (c11 : PySem.W.codeIn K cd11 "pushed" = true)
    (k11 : PySem.W.keepIn K (.ref f11) = true)
    (a12 : PySem.W.nsIn K mainGlobals "_law_pool" = some (some (.ref f12)))
    (l12 : K.lookup f12 = some ⟨oc12, od12, .func (PySem.W.fnOf "_law_pool" "_law_pool" (defArgs s__law_pool) (defBody s__law_pool) (defScope s__law_pool) .none kV12 dc12 pm12 an12 cd12 ct12), sl12⟩)
    (c12 : PySem.W.codeIn K cd12 "_law_pool" = true)
    (k12 : PySem.W.keepIn K (.ref f12) = true)
    (a13 : PySem.W.nsIn K mainGlobals "_law_draw" = some (some (.ref f13)))
    (l13 : K.lookup f13 = some ⟨oc13, od13, .func (PySem.W.fnOf "_law_draw" "_law_draw" (defArgs s__law_draw) (defBody s__law_draw) (defScope s__law_draw) .none kV13 dc13 pm13 an13 cd13 ct13), sl13⟩)
    (c13 : PySem.W.codeIn K cd13 "_law_draw" = true)
    (k13 : PySem.W.keepIn K (.ref f13) = true)
    (a14 : PySem.W.nsIn K mainGlobals "_law_same" = some (some (.ref f14)))
    (l14 : K.lookup f14 = some ⟨oc14, od14, .func (PySem.W.fnOf "_law_same" "_law_same" (defArgs s__law_same) (defBody s__law_same) (defScope s__law_same) .none kV14 dc14 pm14 an14 cd14 ct14), sl14⟩)
    (c14 : PySem.W.codeIn K cd14 "_law_same" = true)
    (k14 : PySem.W.keepIn K (.ref f14) = true)
    (a15 : PySem.W.nsIn K mainGlobals "_law_on" = some (some (.ref f15)))
    (l15 : K.lookup f15 = some ⟨oc15, od15, .func (PySem.W.fnOf "_law_on" "_law_on" (defArgs s__law_on) (defBody s__law_on) (defScope s__law_on) .none kV15 dc15 pm15 an15 cd15 ct15), sl15⟩)
    (c15 : PySem.W.codeIn K cd15 "_law_on" = true)
    (k15 : PySem.W.keepIn K (.ref f15) = true)
    (a16 : PySem.W.nsIn K mainGlobals "_law_levels" = some (some (.ref f16)))
    (l16 : K.lookup f16 = some ⟨oc16, od16, .func (PySem.W.fnOf "_law_levels" "_law_levels" (defArgs s__law_levels) (defBody s__law_levels) (defScope s__law_levels) .none kV16 dc16 pm16 an16 cd16 ct16), sl16⟩)
    (c16 : PySem.W.codeIn K cd16 "_law_levels" = true)
    (k16 : PySem.W.keepIn K (.ref f16) = true)
    (a17 : PySem.W.nsIn K mainGlobals "_law_strict" = some (some (.ref f17)))
    (l17 : K.lookup f17 = some ⟨oc17, od17, .func (PySem.W.fnOf "_law_strict" "_law_strict" (defArgs s__law_strict) (defBody s__law_strict) (defScope s__law_strict) .none kV17 dc17 pm17 an17 cd17 ct17), sl17⟩)
    (c17 : PySem.W.codeIn K cd17 "_law_strict" = true)
    (k17 : PySem.W.keepIn K (.ref f17) = true)
    (a18 : PySem.W.nsIn K mainGlobals "_law_due" = some (some (.ref f18)))
    (l18 : K.lookup f18 = some ⟨oc18, od18, .func (PySem.W.fnOf "_law_due" "_law_due" (defArgs s__law_due) (defBody s__law_due) (defScope s__law_due) .none kV18 dc18 pm18 an18 cd18 ct18), sl18⟩)
    (c18 : PySem.W.codeIn K cd18 "_law_due" = true)
    (k18 : PySem.W.keepIn K (.ref f18) = true)
    (a19 : PySem.W.nsIn K mainGlobals "_law_ask" = some (some (.ref f19)))
    (l19 : K.lookup f19 = some ⟨oc19, od19, .func (PySem.W.fnOf "_law_ask" "_law_ask" (defArgs s__law_ask) (defBody s__law_ask) (defScope s__law_ask) .none kV19 dc19 pm19 an19 cd19 ct19), sl19⟩)
    (c19 : PySem.W.codeIn K cd19 "_law_ask" = true)
    (k19 : PySem.W.keepIn K (.ref f19) = true)
    (a20 : PySem.W.nsIn K mainGlobals "_law_heap" = some (some (.ref f20)))
    (l20 : K.lookup f20 = some ⟨oc20, od20, .func (PySem.W.fnOf "_law_heap" "_law_heap" (defArgs s__law_heap) (defBody s__law_heap) (defScope s__law_heap) .none kV20 dc20 pm20 an20 cd20 ct20), sl20⟩)
    (c20 : PySem.W.codeIn K cd20 "_law_heap" = true)
    (k20 : PySem.W.keepIn K (.ref f20) = true)
    (a21 : PySem.W.nsIn K mainGlobals "_law_pyramid" = some (some (.ref f21)))
    (l21 : K.lookup f21 = some ⟨oc21, od21, .func (PySem.W.fnOf "_law_pyramid" "_law_pyramid" (defArgs s__law_pyramid) (defBody s__law_pyramid) (defScope s__law_pyramid) .none kV21 dc21 pm21 an21 cd21 ct21), sl21⟩)
    (c21 : PySem.W.codeIn K cd21 "_law_pyramid" = true)
    (k21 : PySem.W.keepIn K (.ref f21) = true)
    (a22 : PySem.W.nsIn K mainGlobals "_law_strict_one" = some (some (.ref f22)))
    (l22 : K.lookup f22 = some ⟨oc22, od22, .func (PySem.W.fnOf "_law_strict_one" "_law_strict_one" (defArgs s__law_strict_one) (defBody s__law_strict_one) (defScope s__law_strict_one) .none kV22 dc22 pm22 an22 cd22 ct22), sl22⟩)
    (c22 : PySem.W.codeIn K cd22 "_law_strict_one" = true)
    (k22 : PySem.W.keepIn K (.ref f22) = true)
    (a23 : PySem.W.nsIn K mainGlobals "_law_any" = some (some (.ref f23)))
    (l23 : K.lookup f23 = some ⟨oc23, od23, .func (PySem.W.fnOf "_law_any" "_law_any" (defArgs s__law_any) (defBody s__law_any) (defScope s__law_any) .none kV23 dc23 pm23 an23 cd23 ct23), sl23⟩)
    (c23 : PySem.W.codeIn K cd23 "_law_any" = true)
    (k23 : PySem.W.keepIn K (.ref f23) = true)
    (a24 : PySem.W.nsIn K mainGlobals "_law_changed" = some (some (.ref f24)))
    (l24 : K.lookup f24 = some ⟨oc24, od24, .func (PySem.W.fnOf "_law_changed" "_law_changed" (defArgs s__law_changed) (defBody s__law_changed) (defScope s__law_changed) .none kV24 dc24 pm24 an24 cd24 ct24), sl24⟩)
    (c24 : PySem.W.codeIn K cd24 "_law_changed" = true)
    (k24 : PySem.W.keepIn K (.ref f24) = true)
    (a25 : PySem.W.nsIn K mainGlobals "_law_beyond" = some (some (.ref f25)))
    (l25 : K.lookup f25 = some ⟨oc25, od25, .func (PySem.W.fnOf "_law_beyond" "_law_beyond" (defArgs s__law_beyond) (defBody s__law_beyond) (defScope s__law_beyond) .none kV25 dc25 pm25 an25 cd25 ct25), sl25⟩)
    (c25 : PySem.W.codeIn K cd25 "_law_beyond" = true)
    (k25 : PySem.W.keepIn K (.ref f25) = true)
    (a26 : PySem.W.nsIn K mainGlobals "law" = some (some (.ref f26)))
    (l26 : K.lookup f26 = some ⟨oc26, od26, .func (PySem.W.fnOf "law" "law" (defArgs s_law) (defBody s_law) (defScope s_law) .none kV26 dc26 pm26 an26 cd26 ct26), sl26⟩)
    (c26 : PySem.W.codeIn K cd26 "law" = true)
    (k26 : PySem.W.keepIn K (.ref f26) = true)
    (z_abs : PySem.W.nsIn K mainGlobals "abs" = some none)
    (z_enumerate : PySem.W.nsIn K mainGlobals "enumerate" = some none)
    (z_int : PySem.W.nsIn K mainGlobals "int" = some none)
    (z_isinstance : PySem.W.nsIn K mainGlobals "isinstance" = some none)
    (z_len : PySem.W.nsIn K mainGlobals "len" = some none)
    (z_list : PySem.W.nsIn K mainGlobals "list" = some none)
    (z_max : PySem.W.nsIn K mainGlobals "max" = some none)
    (z_min : PySem.W.nsIn K mainGlobals "min" = some none)
    (z_range : PySem.W.nsIn K mainGlobals "range" = some none)
    (z_repr : PySem.W.nsIn K mainGlobals "repr" = some none)
    (z_tuple : PySem.W.nsIn K mainGlobals "tuple" = some none)
    (z_zip : PySem.W.nsIn K mainGlobals "zip" = some none)
    (y_MOST : PySem.W.nsIn K mainGlobals "MOST" = some (some (.int 60 tk0)))
    (ac0 : PySem.W.nsIn K mainGlobals "RimmachinesError" = some (some (.ref C0)))
    (hg0 : PySem.W.findIn K (.ref C0) "__getattribute__" = some (some (.builtin "BaseException.__getattribute__")))
    (hk0 : PySem.W.findIn K (.ref C0) "__getattr__" = some none)
    (hs0 : PySem.W.subIn K (.ref C0) (.type "BaseException") = some true)
    (hd0 : PySem.W.hasDictIn K C0 = true)
    (ha0 : PySem.W.findIn K (.ref C0) "__class__" = some (some (.builtin "object.__class__")))
    (hm0 : PySem.W.mroIn K C0 (.type "object") = some true)
    (ty0 : PySem.W.typeIn K (.ref C0) = some (.type "type"))
    (ac1 : PySem.W.nsIn K mainGlobals "NumberError" = some (some (.ref C1)))
    (hg1 : PySem.W.findIn K (.ref C1) "__getattribute__" = some (some (.builtin "BaseException.__getattribute__")))
    (hk1 : PySem.W.findIn K (.ref C1) "__getattr__" = some none)
    (hs1 : PySem.W.subIn K (.ref C1) (.type "BaseException") = some true)
    (hd1 : PySem.W.hasDictIn K C1 = true)
    (ha1 : PySem.W.findIn K (.ref C1) "__class__" = some (some (.builtin "object.__class__")))
    (hm1 : PySem.W.mroIn K C1 (.type "object") = some true)
    (ty1 : PySem.W.typeIn K (.ref C1) = some (.type "type"))
    (ac2 : PySem.W.nsIn K mainGlobals "SizeError" = some (some (.ref C2)))
    (hg2 : PySem.W.findIn K (.ref C2) "__getattribute__" = some (some (.builtin "BaseException.__getattribute__")))
    (hk2 : PySem.W.findIn K (.ref C2) "__getattr__" = some none)
    (hs2 : PySem.W.subIn K (.ref C2) (.type "BaseException") = some true)
    (hd2 : PySem.W.hasDictIn K C2 = true)
    (ha2 : PySem.W.findIn K (.ref C2) "__class__" = some (some (.builtin "object.__class__")))
    (hm2 : PySem.W.mroIn K C2 (.type "object") = some true)
    (ty2 : PySem.W.typeIn K (.ref C2) = some (.type "type"))
    (ac3 : PySem.W.nsIn K mainGlobals "WordError" = some (some (.ref C3)))
    (hg3 : PySem.W.findIn K (.ref C3) "__getattribute__" = some (some (.builtin "BaseException.__getattribute__")))
    (hk3 : PySem.W.findIn K (.ref C3) "__getattr__" = some none)
    (hs3 : PySem.W.subIn K (.ref C3) (.type "BaseException") = some true)
    (hd3 : PySem.W.hasDictIn K C3 = true)
    (ha3 : PySem.W.findIn K (.ref C3) "__class__" = some (some (.builtin "object.__class__")))
    (hm3 : PySem.W.mroIn K C3 (.type "object") = some true)
    (ty3 : PySem.W.typeIn K (.ref C3) = some (.type "type"))
    (ac4 : PySem.W.nsIn K mainGlobals "RootError" = some (some (.ref C4)))
    (hg4 : PySem.W.findIn K (.ref C4) "__getattribute__" = some (some (.builtin "BaseException.__getattribute__")))
    (hk4 : PySem.W.findIn K (.ref C4) "__getattr__" = some none)
    (hs4 : PySem.W.subIn K (.ref C4) (.type "BaseException") = some true)
    (hd4 : PySem.W.hasDictIn K C4 = true)
    (ha4 : PySem.W.findIn K (.ref C4) "__class__" = some (some (.builtin "object.__class__")))
    (hm4 : PySem.W.mroIn K C4 (.type "object") = some true)
    (ty4 : PySem.W.typeIn K (.ref C4) = some (.type "type"))
    (hn : PySem.W.specialIn K (.builtin "object.__class__") "__get__" = some (some (.builtin "getset_descriptor.__get__")))
    (ht : PySem.W.takesIn K (.builtin "object.__class__") = some true)
    (p0_0 : PySem.W.subIn K (.ref C0) (.ref C0) = some true)
    (p0_1 : PySem.W.subIn K (.ref C0) (.ref C1) = some false)
    (p0_2 : PySem.W.subIn K (.ref C0) (.ref C2) = some false)
    (p0_3 : PySem.W.subIn K (.ref C0) (.ref C3) = some false)
    (p0_4 : PySem.W.subIn K (.ref C0) (.ref C4) = some false)
    (p1_0 : PySem.W.subIn K (.ref C1) (.ref C0) = some true)
    (p1_1 : PySem.W.subIn K (.ref C1) (.ref C1) = some true)
    (p1_2 : PySem.W.subIn K (.ref C1) (.ref C2) = some false)
    (p1_3 : PySem.W.subIn K (.ref C1) (.ref C3) = some false)
    (p1_4 : PySem.W.subIn K (.ref C1) (.ref C4) = some false)
    (p2_0 : PySem.W.subIn K (.ref C2) (.ref C0) = some true)
    (p2_1 : PySem.W.subIn K (.ref C2) (.ref C1) = some false)
    (p2_2 : PySem.W.subIn K (.ref C2) (.ref C2) = some true)
    (p2_3 : PySem.W.subIn K (.ref C2) (.ref C3) = some false)
    (p2_4 : PySem.W.subIn K (.ref C2) (.ref C4) = some false)
    (p3_0 : PySem.W.subIn K (.ref C3) (.ref C0) = some true)
    (p3_1 : PySem.W.subIn K (.ref C3) (.ref C1) = some false)
    (p3_2 : PySem.W.subIn K (.ref C3) (.ref C2) = some false)
    (p3_3 : PySem.W.subIn K (.ref C3) (.ref C3) = some true)
    (p3_4 : PySem.W.subIn K (.ref C3) (.ref C4) = some false)
    (p4_0 : PySem.W.subIn K (.ref C4) (.ref C0) = some true)
    (p4_1 : PySem.W.subIn K (.ref C4) (.ref C1) = some false)
    (p4_2 : PySem.W.subIn K (.ref C4) (.ref C2) = some false)
    (p4_3 : PySem.W.subIn K (.ref C4) (.ref C3) = some false)
    (p4_4 : PySem.W.subIn K (.ref C4) (.ref C4) = some true)
    (no1_number : PySem.W.findIn K (.ref C1) "number" = some none)
    (no4_x : PySem.W.findIn K (.ref C4) "x" = some none)
    (no4_y : PySem.W.findIn K (.ref C4) "y" = some none)
    (no2_count : PySem.W.findIn K (.ref C2) "count" = some none)
    (xl1 : K.lookup C1 = some (excClassObj nm1 q1 C1 N1 bs1 bm1 true sn1 sub1 ab1 col1 dd1 ka0_1 ka1_1 ka2_1 ka3_1 ka5_1 "ValueError.__new__"))
    (xr1 : PySem.HandSPX.refsVE bm1 = true)
    (sa1 : PySem.W.findIn K (.ref C1) "__setattr__" = some (some (.builtin "object.__setattr__")))
    (kc1 : PySem.W.keepIn K (.ref C1) = true)
    (ic1 : PySem.W.findIn K (.ref C1) "__init__" = some (some (.ref fi0)))
    (xl2 : K.lookup C2 = some (excClassObj nm2 q2 C2 N2 bs2 bm2 true sn2 sub2 ab2 col2 dd2 ka0_2 ka1_2 ka2_2 ka3_2 ka5_2 "ValueError.__new__"))
    (xr2 : PySem.HandSPX.refsVE bm2 = true)
    (sa2 : PySem.W.findIn K (.ref C2) "__setattr__" = some (some (.builtin "object.__setattr__")))
    (kc2 : PySem.W.keepIn K (.ref C2) = true)
    (ic2 : PySem.W.findIn K (.ref C2) "__init__" = some (some (.ref fi1)))
    (xl4 : K.lookup C4 = some (excClassObj nm4 q4 C4 N4 bs4 bm4 true sn4 sub4 ab4 col4 dd4 ka0_4 ka1_4 ka2_4 ka3_4 ka5_4 "ValueError.__new__"))
    (xr4 : PySem.HandSPX.refsVE bm4 = true)
    (sa4 : PySem.W.findIn K (.ref C4) "__setattr__" = some (some (.builtin "object.__setattr__")))
    (kc4 : PySem.W.keepIn K (.ref C4) = true)
    (ic4 : PySem.W.findIn K (.ref C4) "__init__" = some (some (.ref fi2)))
    (li0 : K.lookup fi0 = some ⟨oci0, odi0, .func (PySem.W.fnOf "__init__" "NumberError.__init__" (defArgs si_NumberError) (defBody si_NumberError) (defScope si_NumberError) .none kVi0 dci0 pmi0 ani0 cdi0 cti0), sli0⟩)
    (ci0 : PySem.W.codeIn K cdi0 "NumberError.__init__" = true)
    (ki0 : PySem.W.keepIn K (.ref fi0) = true)
    (iti0 : PySem.W.typeIn K (.ref fi0) = some (.type "function"))
    (li1 : K.lookup fi1 = some ⟨oci1, odi1, .func (PySem.W.fnOf "__init__" "SizeError.__init__" (defArgs si_SizeError) (defBody si_SizeError) (defScope si_SizeError) .none kVi1 dci1 pmi1 ani1 cdi1 cti1), sli1⟩)
    (ci1 : PySem.W.codeIn K cdi1 "SizeError.__init__" = true)
    (ki1 : PySem.W.keepIn K (.ref fi1) = true)
    (iti1 : PySem.W.typeIn K (.ref fi1) = some (.type "function"))
    (li2 : K.lookup fi2 = some ⟨oci2, odi2, .func (PySem.W.fnOf "__init__" "RootError.__init__" (defArgs si_RootError) (defBody si_RootError) (defScope si_RootError) .none kVi2 dci2 pmi2 ani2 cdi2 cti2), sli2⟩)
    (ci2 : PySem.W.codeIn K cdi2 "RootError.__init__" = true)
    (ki2 : PySem.W.keepIn K (.ref fi2) = true)
    (iti2 : PySem.W.typeIn K (.ref fi2) = some (.type "function"))
    : ∃ fd : FuncData, (∀ (s : Shared) (u : Value), BindsTo s fd ⟨[u], []⟩ [("script", u)]) ∧ ∀ base : Heap, K.In base → base.Ns mainGlobals mg → FnG P w K mg base 8 fa fd ["script"] (spF K mg m_law 1) := by
  have e : f26 = fa := (Value.ref.inj (Option.some.inj (hfa.symm.trans (PySem.W.mg_of X G a26)))).symm
  subst e
  have F0 := fun_mk (st := s_check_number) l0 c0 k0
  have F1 := fun_mk (st := s_check_size) l1 c1 k1
  have F2 := fun_mk (st := s_check_places) l2 c2 k2
  have F3 := fun_mk (st := s_lying_on) l3 c3 k3
  have F4 := fun_mk (st := s_first_astray) l4 c4 k4
  have F5 := fun_mk (st := s_drop) l5 c5 k5
  have F6 := fun_mk (st := s_split_at) l6 c6 k6
  have F7 := fun_mk (st := s_is_pyramid) l7 c7 k7
  have F8 := fun_mk (st := s_is_strict) l8 c8 k8
  have F9 := fun_mk (st := s_is_half) l9 c9 k9
  have F10 := fun_mk (st := s_levels) l10 c10 k10
  have F11 := fun_mk (st := s_pushed) l11 c11 k11
  have F12 := fun_mk (st := s__law_pool) l12 c12 k12
  have F13 := fun_mk (st := s__law_draw) l13 c13 k13
  have F14 := fun_mk (st := s__law_same) l14 c14 k14
  have F15 := fun_mk (st := s__law_on) l15 c15 k15
  have F16 := fun_mk (st := s__law_levels) l16 c16 k16
  have F17 := fun_mk (st := s__law_strict) l17 c17 k17
  have F18 := fun_mk (st := s__law_due) l18 c18 k18
  have F19 := fun_mk (st := s__law_ask) l19 c19 k19
  have F20 := fun_mk (st := s__law_heap) l20 c20 k20
  have F21 := fun_mk (st := s__law_pyramid) l21 c21 k21
  have F22 := fun_mk (st := s__law_strict_one) l22 c22 k22
  have F23 := fun_mk (st := s__law_any) l23 c23 k23
  have F24 := fun_mk (st := s__law_changed) l24 c24 k24
  have F25 := fun_mk (st := s__law_beyond) l25 c25 k25
  have F26 := fun_mk (st := s_law) l26 c26 k26
  have Fi0 := fun_mk (st := si_NumberError) li0 ci0 ki0
  have Fi1 := fun_mk (st := si_SizeError) li1 ci1 ki1
  have Fi2 := fun_mk (st := si_RootError) li2 ci2 ki2
  have T : Txt K mg (fun i => match i with | 0 => f0 | 1 => f1 | 2 => f2 | 3 => f3 | 4 => f4 | 5 => f5 | 6 => f6 | 7 => f7 | 8 => f8 | 9 => f9 | 10 => f10 | 11 => f11 | 12 => f12 | 13 => f13 | 14 => f14 | 15 => f15 | 16 => f16 | 17 => f17 | 18 => f18 | 19 => f19 | 20 => f20 | 21 => f21 | 22 => f22 | 23 => f23 | 24 => f24 | 25 => f25 | 26 => f26 | _ => 0) (fun i => match i with | 0 => C0 | 1 => C1 | 2 => C2 | 3 => C3 | 4 => C4 | _ => 0) (fun i => match i with | 0 => fi0 | 1 => fi1 | 2 => fi2 | _ => 0)
    (fun i => match i with | 0 => PySem.W.fnOf "check_number" "check_number" (defArgs s_check_number) (defBody s_check_number) (defScope s_check_number) .none kV0 dc0 pm0 an0 cd0 ct0 | 1 => PySem.W.fnOf "check_size" "check_size" (defArgs s_check_size) (defBody s_check_size) (defScope s_check_size) .none kV1 dc1 pm1 an1 cd1 ct1 | 2 => PySem.W.fnOf "check_places" "check_places" (defArgs s_check_places) (defBody s_check_places) (defScope s_check_places) .none kV2 dc2 pm2 an2 cd2 ct2 | 3 => PySem.W.fnOf "lying_on" "lying_on" (defArgs s_lying_on) (defBody s_lying_on) (defScope s_lying_on) .none kV3 dc3 pm3 an3 cd3 ct3 | 4 => PySem.W.fnOf "first_astray" "first_astray" (defArgs s_first_astray) (defBody s_first_astray) (defScope s_first_astray) .none kV4 dc4 pm4 an4 cd4 ct4 | 5 => PySem.W.fnOf "drop" "drop" (defArgs s_drop) (defBody s_drop) (defScope s_drop) .none kV5 dc5 pm5 an5 cd5 ct5 | 6 => PySem.W.fnOf "split_at" "split_at" (defArgs s_split_at) (defBody s_split_at) (defScope s_split_at) .none kV6 dc6 pm6 an6 cd6 ct6 | 7 => PySem.W.fnOf "is_pyramid" "is_pyramid" (defArgs s_is_pyramid) (defBody s_is_pyramid) (defScope s_is_pyramid) .none kV7 dc7 pm7 an7 cd7 ct7 | 8 => PySem.W.fnOf "is_strict" "is_strict" (defArgs s_is_strict) (defBody s_is_strict) (defScope s_is_strict) .none kV8 dc8 pm8 an8 cd8 ct8 | 9 => PySem.W.fnOf "is_half" "is_half" (defArgs s_is_half) (defBody s_is_half) (defScope s_is_half) .none kV9 dc9 pm9 an9 cd9 ct9 | 10 => PySem.W.fnOf "levels" "levels" (defArgs s_levels) (defBody s_levels) (defScope s_levels) .none kV10 dc10 pm10 an10 cd10 ct10 | 11 => PySem.W.fnOf "pushed" "pushed" (defArgs s_pushed) (defBody s_pushed) (defScope s_pushed) .none kV11 dc11 pm11 an11 cd11 ct11 | 12 => PySem.W.fnOf "_law_pool" "_law_pool" (defArgs s__law_pool) (defBody s__law_pool) (defScope s__law_pool) .none kV12 dc12 pm12 an12 cd12 ct12 | 13 => PySem.W.fnOf "_law_draw" "_law_draw" (defArgs s__law_draw) (defBody s__law_draw) (defScope s__law_draw) .none kV13 dc13 pm13 an13 cd13 ct13 | 14 => PySem.W.fnOf "_law_same" "_law_same" (defArgs s__law_same) (defBody s__law_same) (defScope s__law_same) .none kV14 dc14 pm14 an14 cd14 ct14 | 15 => PySem.W.fnOf "_law_on" "_law_on" (defArgs s__law_on) (defBody s__law_on) (defScope s__law_on) .none kV15 dc15 pm15 an15 cd15 ct15 | 16 => PySem.W.fnOf "_law_levels" "_law_levels" (defArgs s__law_levels) (defBody s__law_levels) (defScope s__law_levels) .none kV16 dc16 pm16 an16 cd16 ct16 | 17 => PySem.W.fnOf "_law_strict" "_law_strict" (defArgs s__law_strict) (defBody s__law_strict) (defScope s__law_strict) .none kV17 dc17 pm17 an17 cd17 ct17 | 18 => PySem.W.fnOf "_law_due" "_law_due" (defArgs s__law_due) (defBody s__law_due) (defScope s__law_due) .none kV18 dc18 pm18 an18 cd18 ct18 | 19 => PySem.W.fnOf "_law_ask" "_law_ask" (defArgs s__law_ask) (defBody s__law_ask) (defScope s__law_ask) .none kV19 dc19 pm19 an19 cd19 ct19 | 20 => PySem.W.fnOf "_law_heap" "_law_heap" (defArgs s__law_heap) (defBody s__law_heap) (defScope s__law_heap) .none kV20 dc20 pm20 an20 cd20 ct20 | 21 => PySem.W.fnOf "_law_pyramid" "_law_pyramid" (defArgs s__law_pyramid) (defBody s__law_pyramid) (defScope s__law_pyramid) .none kV21 dc21 pm21 an21 cd21 ct21 | 22 => PySem.W.fnOf "_law_strict_one" "_law_strict_one" (defArgs s__law_strict_one) (defBody s__law_strict_one) (defScope s__law_strict_one) .none kV22 dc22 pm22 an22 cd22 ct22 | 23 => PySem.W.fnOf "_law_any" "_law_any" (defArgs s__law_any) (defBody s__law_any) (defScope s__law_any) .none kV23 dc23 pm23 an23 cd23 ct23 | 24 => PySem.W.fnOf "_law_changed" "_law_changed" (defArgs s__law_changed) (defBody s__law_changed) (defScope s__law_changed) .none kV24 dc24 pm24 an24 cd24 ct24 | 25 => PySem.W.fnOf "_law_beyond" "_law_beyond" (defArgs s__law_beyond) (defBody s__law_beyond) (defScope s__law_beyond) .none kV25 dc25 pm25 an25 cd25 ct25 | 26 => PySem.W.fnOf "law" "law" (defArgs s_law) (defBody s_law) (defScope s_law) .none kV26 dc26 pm26 an26 cd26 ct26 | _ => PySem.W.fnOf "check_number" "check_number" (defArgs s_check_number) (defBody s_check_number) (defScope s_check_number) .none kV0 dc0 pm0 an0 cd0 ct0)
    (fun i => match i with | 0 => PySem.W.fnOf "__init__" "NumberError.__init__" (defArgs si_NumberError) (defBody si_NumberError) (defScope si_NumberError) .none kVi0 dci0 pmi0 ani0 cdi0 cti0 | 1 => PySem.W.fnOf "__init__" "SizeError.__init__" (defArgs si_SizeError) (defBody si_SizeError) (defScope si_SizeError) .none kVi1 dci1 pmi1 ani1 cdi1 cti1 | 2 => PySem.W.fnOf "__init__" "RootError.__init__" (defArgs si_RootError) (defBody si_RootError) (defScope si_RootError) .none kVi2 dci2 pmi2 ani2 cdi2 cti2 | _ => PySem.W.fnOf "check_number" "check_number" (defArgs s_check_number) (defBody s_check_number) (defScope s_check_number) .none kV0 dc0 pm0 an0 cd0 ct0) (fun i => match i with | 0 => tk0 | _ => 0) := {
    g_check_number := PySem.W.mg_of X G a0
    F_check_number := F0
    b_check_number := F0.binds (ps := ["number", "least", "most"]) (fun _ _ _ _ _ _ us hl => match us, hl with | [_, _, _], _ => rfl)
    g_check_size := PySem.W.mg_of X G a1
    F_check_size := F1
    b_check_size := F1.binds (ps := ["count", "least", "most"]) (fun _ _ _ _ _ _ us hl => match us, hl with | [_, _, _], _ => rfl)
    g_check_places := PySem.W.mg_of X G a2
    F_check_places := F2
    b_check_places := F2.binds (ps := ["places"]) (fun _ _ _ _ _ _ us hl => match us, hl with | [_], _ => rfl)
    g_lying_on := PySem.W.mg_of X G a3
    F_lying_on := F3
    b_lying_on := F3.binds (ps := ["places", "at"]) (fun _ _ _ _ _ _ us hl => match us, hl with | [_, _], _ => rfl)
    g_first_astray := PySem.W.mg_of X G a4
    F_first_astray := F4
    b_first_astray := F4.binds (ps := ["places"]) (fun _ _ _ _ _ _ us hl => match us, hl with | [_], _ => rfl)
    g_drop := PySem.W.mg_of X G a5
    F_drop := F5
    b_drop := F5.binds (ps := ["places"]) (fun _ _ _ _ _ _ us hl => match us, hl with | [_], _ => rfl)
    g_split_at := PySem.W.mg_of X G a6
    F_split_at := F6
    b_split_at := F6.binds (ps := ["places", "at"]) (fun _ _ _ _ _ _ us hl => match us, hl with | [_, _], _ => rfl)
    g_is_pyramid := PySem.W.mg_of X G a7
    F_is_pyramid := F7
    b_is_pyramid := F7.binds (ps := ["places"]) (fun _ _ _ _ _ _ us hl => match us, hl with | [_], _ => rfl)
    g_is_strict := PySem.W.mg_of X G a8
    F_is_strict := F8
    b_is_strict := F8.binds (ps := ["places"]) (fun _ _ _ _ _ _ us hl => match us, hl with | [_], _ => rfl)
    g_is_half := PySem.W.mg_of X G a9
    F_is_half := F9
    b_is_half := F9.binds (ps := ["places"]) (fun _ _ _ _ _ _ us hl => match us, hl with | [_], _ => rfl)
    g_levels := PySem.W.mg_of X G a10
    F_levels := F10
    b_levels := F10.binds (ps := ["places"]) (fun _ _ _ _ _ _ us hl => match us, hl with | [_], _ => rfl)
    g_pushed := PySem.W.mg_of X G a11
    F_pushed := F11
    b_pushed := F11.binds (ps := ["places", "at"]) (fun _ _ _ _ _ _ us hl => match us, hl with | [_, _], _ => rfl)
    g__law_pool := PySem.W.mg_of X G a12
    F__law_pool := F12
    b__law_pool := F12.binds (ps := ["script"]) (fun _ _ _ _ _ _ us hl => match us, hl with | [_], _ => rfl)
    g__law_draw := PySem.W.mg_of X G a13
    F__law_draw := F13
    b__law_draw := F13.binds (ps := ["pool", "many"]) (fun _ _ _ _ _ _ us hl => match us, hl with | [_, _], _ => rfl)
    g__law_same := PySem.W.mg_of X G a14
    F__law_same := F14
    b__law_same := F14.binds (ps := ["told", "due"]) (fun _ _ _ _ _ _ us hl => match us, hl with | [_, _], _ => rfl)
    g__law_on := PySem.W.mg_of X G a15
    F__law_on := F15
    b__law_on := F15.binds (ps := ["places", "at"]) (fun _ _ _ _ _ _ us hl => match us, hl with | [_, _], _ => rfl)
    g__law_levels := PySem.W.mg_of X G a16
    F__law_levels := F16
    b__law_levels := F16.binds (ps := ["places"]) (fun _ _ _ _ _ _ us hl => match us, hl with | [_], _ => rfl)
    g__law_strict := PySem.W.mg_of X G a17
    F__law_strict := F17
    b__law_strict := F17.binds (ps := ["places"]) (fun _ _ _ _ _ _ us hl => match us, hl with | [_], _ => rfl)
    g__law_due := PySem.W.mg_of X G a18
    F__law_due := F18
    b__law_due := F18.binds (ps := ["which", "places", "at"]) (fun _ _ _ _ _ _ us hl => match us, hl with | [_, _, _], _ => rfl)
    g__law_ask := PySem.W.mg_of X G a19
    F__law_ask := F19
    b__law_ask := F19.binds (ps := ["which", "places", "at"]) (fun _ _ _ _ _ _ us hl => match us, hl with | [_, _, _], _ => rfl)
    g__law_heap := PySem.W.mg_of X G a20
    F__law_heap := F20
    b__law_heap := F20.binds (ps := ["places", "at"]) (fun _ _ _ _ _ _ us hl => match us, hl with | [_, _], _ => rfl)
    g__law_pyramid := PySem.W.mg_of X G a21
    F__law_pyramid := F21
    b__law_pyramid := F21.binds (ps := ["pool", "size", "least"]) (fun _ _ _ _ _ _ us hl => match us, hl with | [_, _, _], _ => rfl)
    g__law_strict_one := PySem.W.mg_of X G a22
    F__law_strict_one := F22
    b__law_strict_one := F22.binds (ps := ["pool", "size"]) (fun _ _ _ _ _ _ us hl => match us, hl with | [_, _], _ => rfl)
    g__law_any := PySem.W.mg_of X G a23
    F__law_any := F23
    b__law_any := F23.binds (ps := ["pool", "size"]) (fun _ _ _ _ _ _ us hl => match us, hl with | [_, _], _ => rfl)
    g__law_changed := PySem.W.mg_of X G a24
    F__law_changed := F24
    b__law_changed := F24.binds (ps := ["pool", "places"]) (fun _ _ _ _ _ _ us hl => match us, hl with | [_, _], _ => rfl)
    g__law_beyond := PySem.W.mg_of X G a25
    F__law_beyond := F25
    b__law_beyond := F25.binds (ps := ["pool", "places"]) (fun _ _ _ _ _ _ us hl => match us, hl with | [_, _], _ => rfl)
    g_law := PySem.W.mg_of X G a26
    F_law := F26
    b_law := F26.binds (ps := ["script"]) (fun _ _ _ _ _ _ us hl => match us, hl with | [_], _ => rfl)
    kw_levels := fun s ws _ hl => match ws, hl with | [_], _ => .of_eq rfl
    z_abs := PySem.W.mg_none_of X G z_abs
    z_enumerate := PySem.W.mg_none_of X G z_enumerate
    z_int := PySem.W.mg_none_of X G z_int
    z_isinstance := PySem.W.mg_none_of X G z_isinstance
    z_len := PySem.W.mg_none_of X G z_len
    z_list := PySem.W.mg_none_of X G z_list
    z_max := PySem.W.mg_none_of X G z_max
    z_min := PySem.W.mg_none_of X G z_min
    z_range := PySem.W.mg_none_of X G z_range
    z_repr := PySem.W.mg_none_of X G z_repr
    z_tuple := PySem.W.mg_none_of X G z_tuple
    z_zip := PySem.W.mg_none_of X G z_zip
    c_MOST := PySem.W.mg_of X G y_MOST
    gc_RimmachinesError := PySem.W.mg_of X G ac0
    gc_NumberError := PySem.W.mg_of X G ac1
    gc_SizeError := PySem.W.mg_of X G ac2
    gc_WordError := PySem.W.mg_of X G ac3
    gc_RootError := PySem.W.mg_of X G ac4
    ex := by
      have hC : ∀ {n : Str} {a C : Addr}, mg n = some (.ref a) → mg n = some (.ref C) → C = a := fun h1 h2 => by rw [h1] at h2; exact (Value.ref.inj (Option.some.inj h2)).symm
      have g0 := PySem.W.mg_of X G ac0
      have g1 := PySem.W.mg_of X G ac1
      have g2 := PySem.W.mg_of X G ac2
      have g3 := PySem.W.mg_of X G ac3
      have g4 := PySem.W.mg_of X G ac4
      refine ⟨?_, ?_, ?_⟩
      · intro n hn
        simp only [exCls, List.mem_cons, List.not_mem_nil, or_false] at hn
        rcases hn with rfl | rfl | rfl | rfl | rfl
        · exact ⟨_, g0, ⟨hg0, hk0, hs0, hd0, ha0, hn, ht, hm0⟩, ty0, p0_0⟩
        · exact ⟨_, g1, ⟨hg1, hk1, hs1, hd1, ha1, hn, ht, hm1⟩, ty1, p1_1⟩
        · exact ⟨_, g2, ⟨hg2, hk2, hs2, hd2, ha2, hn, ht, hm2⟩, ty2, p2_2⟩
        · exact ⟨_, g3, ⟨hg3, hk3, hs3, hd3, ha3, hn, ht, hm3⟩, ty3, p3_3⟩
        · exact ⟨_, g4, ⟨hg4, hk4, hs4, hd4, ha4, hn, ht, hm4⟩, ty4, p4_4⟩
      · intro q hq C D h1 h2
        simp only [exPrs, List.mem_cons, List.not_mem_nil, or_false] at hq
        rcases hq with rfl | rfl | rfl | rfl | rfl | rfl | rfl | rfl | rfl | rfl | rfl | rfl | rfl | rfl | rfl | rfl | rfl | rfl | rfl | rfl | rfl | rfl | rfl | rfl | rfl
        · obtain rfl := hC g0 h1
          obtain rfl := hC g0 h2
          exact p0_0
        · obtain rfl := hC g0 h1
          obtain rfl := hC g1 h2
          exact p0_1
        · obtain rfl := hC g0 h1
          obtain rfl := hC g2 h2
          exact p0_2
        · obtain rfl := hC g0 h1
          obtain rfl := hC g3 h2
          exact p0_3
        · obtain rfl := hC g0 h1
          obtain rfl := hC g4 h2
          exact p0_4
        · obtain rfl := hC g1 h1
          obtain rfl := hC g0 h2
          exact p1_0
        · obtain rfl := hC g1 h1
          obtain rfl := hC g1 h2
          exact p1_1
        · obtain rfl := hC g1 h1
          obtain rfl := hC g2 h2
          exact p1_2
        · obtain rfl := hC g1 h1
          obtain rfl := hC g3 h2
          exact p1_3
        · obtain rfl := hC g1 h1
          obtain rfl := hC g4 h2
          exact p1_4
        · obtain rfl := hC g2 h1
          obtain rfl := hC g0 h2
          exact p2_0
        · obtain rfl := hC g2 h1
          obtain rfl := hC g1 h2
          exact p2_1
        · obtain rfl := hC g2 h1
          obtain rfl := hC g2 h2
          exact p2_2
        · obtain rfl := hC g2 h1
          obtain rfl := hC g3 h2
          exact p2_3
        · obtain rfl := hC g2 h1
          obtain rfl := hC g4 h2
          exact p2_4
        · obtain rfl := hC g3 h1
          obtain rfl := hC g0 h2
          exact p3_0
        · obtain rfl := hC g3 h1
          obtain rfl := hC g1 h2
          exact p3_1
        · obtain rfl := hC g3 h1
          obtain rfl := hC g2 h2
          exact p3_2
        · obtain rfl := hC g3 h1
          obtain rfl := hC g3 h2
          exact p3_3
        · obtain rfl := hC g3 h1
          obtain rfl := hC g4 h2
          exact p3_4
        · obtain rfl := hC g4 h1
          obtain rfl := hC g0 h2
          exact p4_0
        · obtain rfl := hC g4 h1
          obtain rfl := hC g1 h2
          exact p4_1
        · obtain rfl := hC g4 h1
          obtain rfl := hC g2 h2
          exact p4_2
        · obtain rfl := hC g4 h1
          obtain rfl := hC g3 h2
          exact p4_3
        · obtain rfl := hC g4 h1
          obtain rfl := hC g4 h2
          exact p4_4
      · intro q hq C h1
        simp only [exFld, List.mem_cons, List.not_mem_nil, or_false] at hq
        rcases hq with rfl | rfl | rfl | rfl
        · obtain rfl := hC g1 h1
          exact no1_number
        · obtain rfl := hC g4 h1
          exact no4_x
        · obtain rfl := hC g4 h1
          exact no4_y
        · obtain rfl := hC g2 h1
          exact no2_count
    oc_NumberError := ⟨⟨_, _, _, _, _, _, _, _, _, _, _, _, _, _, _, xl1, xr1⟩, sa1, hs1, ty1, kc1⟩
    ic_NumberError := ic1
    no_NumberError := no1_number
    oc_SizeError := ⟨⟨_, _, _, _, _, _, _, _, _, _, _, _, _, _, _, xl2, xr2⟩, sa2, hs2, ty2, kc2⟩
    ic_SizeError := ic2
    no_SizeError := no2_count
    oc_RootError := ⟨⟨_, _, _, _, _, _, _, _, _, _, _, _, _, _, _, xl4, xr4⟩, sa4, hs4, ty4, kc4⟩
    ic_RootError := ic4
    no_RootError := ⟨no4_x, no4_y⟩
    Fi_NumberError := Fi0
    bi_NumberError := Fi0.binds (ps := ["self", "number"]) (fun _ _ _ _ _ _ us hl => match us, hl with | [_, _], _ => rfl)
    it_NumberError := iti0
    Fi_SizeError := Fi1
    bi_SizeError := Fi1.binds (ps := ["self", "count"]) (fun _ _ _ _ _ _ us hl => match us, hl with | [_, _], _ => rfl)
    it_SizeError := iti1
    Fi_RootError := Fi2
    bi_RootError := Fi2.binds (ps := ["self", "x", "y"]) (fun _ _ _ _ _ _ us hl => match us, hl with | [_, _, _], _ => rfl)
    it_RootError := iti2
  }
  exact ⟨_, fun s u => .of_eq rfl, fun base _ _ => G_law T⟩
end K42
end
section
set_option Elab.async false
set_option linter.all false
set_option maxRecDepth 100000
set_option maxHeartbeats 4000000
namespace K42
open PySem L2 P0

theorem run_check_number (n lo hi : Int) (h1 : lo ≤ n) (h2 : n ≤ hi) : m_check_number [.val (.int n), .val (.int lo), .val (.int hi)] = .ok (.d .non) [.val (.int n), .val (.int lo), .val (.int hi)] := by
  have a : ¬ n < lo := by omega
  have b : ¬ hi < n := by omega
  simp [m_check_number, runB, b_check_number, sSeq, sIf, sSet, sRet, sRetN, sExpr, sNil, sFor, sAsg, sSetIx, sPut, sAug, putV, eV, eC, sub, fz, b2, b1, e3, con, ali, toB, eT, tru, tNt, tAn, tO, eAn, eO, eNt, eIf, aC, aN, conL, aliL, eLst, eTup, eDct, oO, oI, eSl, pSl, eB, qLen, qAbs, qInt, qList, qTuple, pAdd, pSub, pMul, pDiv, pMod, pPow, pOrd, pEq, pNe, pEqB, pNeg, pIsN, pIn, pIx, pDx, items?, int?, lst?, dct?, tup?, key?, getMu, putMu, getL, getD', mApp, mPop, mPopAt, mGet2, mIndex, gN, gC, gT, iSeq, walk?, run_range1, run_range2, iEnum1, iZip2, eCall, eCallI, kCall, kCallI, M.thr, run_setS, run_setF, run_setO, a, b]
theorem exc_check_number (n lo hi : Int) (h : n < lo ∨ hi < n) : ∃ ρ, m_check_number [.val (.int n), .val (.int lo), .val (.int hi)] = .exc ⟨"NumberError", some [("number", .int n)]⟩ ρ := by
  by_cases a : n < lo
  · simp [m_check_number, runB, b_check_number, sSeq, sIf, sSet, sRet, sRetN, sExpr, sNil, sFor, sAsg, sSetIx, sPut, sAug, putV, eV, eC, sub, fz, b2, b1, e3, con, ali, toB, eT, tru, tNt, tAn, tO, eAn, eO, eNt, eIf, aC, aN, conL, aliL, eLst, eTup, eDct, oO, oI, eSl, pSl, eB, qLen, qAbs, qInt, qList, qTuple, pAdd, pSub, pMul, pDiv, pMod, pPow, pOrd, pEq, pNe, pEqB, pNeg, pIsN, pIn, pIx, pDx, items?, int?, lst?, dct?, tup?, key?, getMu, putMu, getL, getD', mApp, mPop, mPopAt, mGet2, mIndex, gN, gC, gT, iSeq, walk?, run_range1, run_range2, iEnum1, iZip2, eCall, eCallI, kCall, kCallI, M.thr, run_setS, run_setF, run_setO, sRaise, a]
  · have b : hi < n := by omega
    simp [m_check_number, runB, b_check_number, sSeq, sIf, sSet, sRet, sRetN, sExpr, sNil, sFor, sAsg, sSetIx, sPut, sAug, putV, eV, eC, sub, fz, b2, b1, e3, con, ali, toB, eT, tru, tNt, tAn, tO, eAn, eO, eNt, eIf, aC, aN, conL, aliL, eLst, eTup, eDct, oO, oI, eSl, pSl, eB, qLen, qAbs, qInt, qList, qTuple, pAdd, pSub, pMul, pDiv, pMod, pPow, pOrd, pEq, pNe, pEqB, pNeg, pIsN, pIn, pIx, pDx, items?, int?, lst?, dct?, tup?, key?, getMu, putMu, getL, getD', mApp, mPop, mPopAt, mGet2, mIndex, gN, gC, gT, iSeq, walk?, run_range1, run_range2, iEnum1, iZip2, eCall, eCallI, kCall, kCallI, M.thr, run_setS, run_setF, run_setO, sRaise, a, b]
theorem run_check_size (n lo hi : Int) (h1 : lo ≤ n) (h2 : n ≤ hi) : m_check_size [.val (.int n), .val (.int lo), .val (.int hi)] = .ok (.d .non) [.val (.int n), .val (.int lo), .val (.int hi)] := by
  have a : ¬ n < lo := by omega
  have b : ¬ hi < n := by omega
  simp [m_check_size, runB, b_check_size, sSeq, sIf, sSet, sRet, sRetN, sExpr, sNil, sFor, sAsg, sSetIx, sPut, sAug, putV, eV, eC, sub, fz, b2, b1, e3, con, ali, toB, eT, tru, tNt, tAn, tO, eAn, eO, eNt, eIf, aC, aN, conL, aliL, eLst, eTup, eDct, oO, oI, eSl, pSl, eB, qLen, qAbs, qInt, qList, qTuple, pAdd, pSub, pMul, pDiv, pMod, pPow, pOrd, pEq, pNe, pEqB, pNeg, pIsN, pIn, pIx, pDx, items?, int?, lst?, dct?, tup?, key?, getMu, putMu, getL, getD', mApp, mPop, mPopAt, mGet2, mIndex, gN, gC, gT, iSeq, walk?, run_range1, run_range2, iEnum1, iZip2, eCall, eCallI, kCall, kCallI, M.thr, run_setS, run_setF, run_setO, a, b]
theorem exc_check_size (n lo hi : Int) (h : n < lo ∨ hi < n) : ∃ ρ, m_check_size [.val (.int n), .val (.int lo), .val (.int hi)] = .exc ⟨"SizeError", some [("count", .int n)]⟩ ρ := by
  by_cases a : n < lo
  · simp [m_check_size, runB, b_check_size, sSeq, sIf, sSet, sRet, sRetN, sExpr, sNil, sFor, sAsg, sSetIx, sPut, sAug, putV, eV, eC, sub, fz, b2, b1, e3, con, ali, toB, eT, tru, tNt, tAn, tO, eAn, eO, eNt, eIf, aC, aN, conL, aliL, eLst, eTup, eDct, oO, oI, eSl, pSl, eB, qLen, qAbs, qInt, qList, qTuple, pAdd, pSub, pMul, pDiv, pMod, pPow, pOrd, pEq, pNe, pEqB, pNeg, pIsN, pIn, pIx, pDx, items?, int?, lst?, dct?, tup?, key?, getMu, putMu, getL, getD', mApp, mPop, mPopAt, mGet2, mIndex, gN, gC, gT, iSeq, walk?, run_range1, run_range2, iEnum1, iZip2, eCall, eCallI, kCall, kCallI, M.thr, run_setS, run_setF, run_setO, sRaise, a]
  · have b : hi < n := by omega
    simp [m_check_size, runB, b_check_size, sSeq, sIf, sSet, sRet, sRetN, sExpr, sNil, sFor, sAsg, sSetIx, sPut, sAug, putV, eV, eC, sub, fz, b2, b1, e3, con, ali, toB, eT, tru, tNt, tAn, tO, eAn, eO, eNt, eIf, aC, aN, conL, aliL, eLst, eTup, eDct, oO, oI, eSl, pSl, eB, qLen, qAbs, qInt, qList, qTuple, pAdd, pSub, pMul, pDiv, pMod, pPow, pOrd, pEq, pNe, pEqB, pNeg, pIsN, pIn, pIx, pDx, items?, int?, lst?, dct?, tup?, key?, getMu, putMu, getL, getD', mApp, mPop, mPopAt, mGet2, mIndex, gN, gC, gT, iSeq, walk?, run_range1, run_range2, iEnum1, iZip2, eCall, eCallI, kCall, kCallI, M.thr, run_setS, run_setF, run_setO, sRaise, a, b]
/-- the first place out of bounds -/
def wrong (ps : List Int) : Option Int := ps.find? fun p => decide (p < -60) || decide (60 < p)
inductive NV : Sl → Prop
  | no : NV .no
  | val (d : Dv) : NV (.val d)
theorem NV.io {s : Sl} (h : NV s) : isIo (some s) = false := by cases h <;> rfl
theorem cp_loop {d : Dv} : ∀ (ps : List Int) (s : Sl), NV s → match wrong ps with
    | none => ∃ s', forL (setS 1) L1_check_places (iz ps) [.val d, s] = .ok .nx [.val d, s']
    | some p => ∃ ρ, forL (setS 1) L1_check_places (iz ps) [.val d, s] = .exc ⟨"NumberError", some [("number", .int p)]⟩ ρ
  | [], s, _ => ⟨s, rfl⟩
  | p :: ps, s, hs => by
    by_cases hp : p < -60 ∨ 60 < p
    · have : wrong (p :: ps) = some p := by unfold wrong; rw [List.find?_cons_of_pos (by simpa using hp)]
      rw [this]
      obtain ⟨ρ, e⟩ := exc_check_number p (-60) 60 hp
      simp [forL, L1_check_places, sSeq, sIf, sSet, sRet, sRetN, sExpr, sNil, sFor, sAsg, sSetIx, sPut, sAug, putV, eV, eC, sub, fz, b2, b1, e3, con, ali, toB, eT, tru, tNt, tAn, tO, eAn, eO, eNt, eIf, aC, aN, conL, aliL, eLst, eTup, eDct, oO, oI, eSl, pSl, eB, qLen, qAbs, qInt, qList, qTuple, pAdd, pSub, pMul, pDiv, pMod, pPow, pOrd, pEq, pNe, pEqB, pNeg, pIsN, pIn, pIx, pDx, items?, int?, lst?, dct?, tup?, key?, getMu, putMu, getL, getD', mApp, mPop, mPopAt, mGet2, mIndex, gN, gC, gT, iSeq, walk?, run_range1, run_range2, iEnum1, iZip2, eCall, eCallI, kCall, kCallI, M.thr, run_setS, run_setF, run_setO, hs.io, e]
    · have : wrong (p :: ps) = wrong ps := by unfold wrong; rw [List.find?_cons_of_neg (by simpa using hp)]
      rw [this]
      have e := run_check_number p (-60) 60 (by omega) (by omega)
      have ih := cp_loop (d := d) ps (.val (.int p)) (.val _)
      have b : L1_check_places [.val d, .val (.int p)] = .ok .nx [.val d, .val (.int p)] := by simp [L1_check_places, sSeq, sIf, sSet, sRet, sRetN, sExpr, sNil, sFor, sAsg, sSetIx, sPut, sAug, putV, eV, eC, sub, fz, b2, b1, e3, con, ali, toB, eT, tru, tNt, tAn, tO, eAn, eO, eNt, eIf, aC, aN, conL, aliL, eLst, eTup, eDct, oO, oI, eSl, pSl, eB, qLen, qAbs, qInt, qList, qTuple, pAdd, pSub, pMul, pDiv, pMod, pPow, pOrd, pEq, pNe, pEqB, pNeg, pIsN, pIn, pIx, pDx, items?, int?, lst?, dct?, tup?, key?, getMu, putMu, getL, getD', mApp, mPop, mPopAt, mGet2, mIndex, gN, gC, gT, iSeq, walk?, run_range1, run_range2, iEnum1, iZip2, eCall, eCallI, kCall, kCallI, M.thr, run_setS, run_setF, run_setO, e]
      have st : forL (setS 1) L1_check_places (iz (p :: ps)) [.val d, s] = forL (setS 1) L1_check_places (iz ps) [.val d, .val (.int p)] := by simp [forL, run_setS, hs.io, b]
      rw [st]
      exact ih
theorem run_check_places {d : Dv} {ps : List Int} (h : Seqd d ps) (h1 : 1 ≤ ps.length) (h2 : ps.length ≤ 60) (hw : wrong ps = none) : ∃ ρ, m_check_places [.val d] = .ok (.d .non) ρ := by
  have e := run_check_size ps.length 1 60 (by omega) (by omega)
  have l := cp_loop (d := d) ps .no .no
  rw [hw] at l
  obtain ⟨s', l⟩ := l
  simp [m_check_places, runB, b_check_places, sSeq, sIf, sSet, sRet, sRetN, sExpr, sNil, sFor, sAsg, sSetIx, sPut, sAug, putV, eV, eC, sub, fz, b2, b1, e3, con, ali, toB, eT, tru, tNt, tAn, tO, eAn, eO, eNt, eIf, aC, aN, conL, aliL, eLst, eTup, eDct, oO, oI, eSl, pSl, eB, qAbs, qInt, qList, qTuple, pAdd, pSub, pMul, pDiv, pMod, pPow, pOrd, pEq, pNe, pEqB, pNeg, pIsN, pIn, pDx, int?, lst?, dct?, tup?, key?, getMu, putMu, getL, getD', mApp, mPop, mPopAt, mGet2, mIndex, gN, gC, gT, iSeq, run_range1, run_range2, iEnum1, iZip2, eCall, eCallI, kCall, kCallI, M.thr, run_setS, run_setF, run_setO, h.len, h.walk, e, l]
theorem exc1_check_places {d : Dv} {ps : List Int} (h : Seqd d ps) (h1 : ps.length < 1 ∨ 60 < ps.length) : ∃ ρ, m_check_places [.val d] = .exc ⟨"SizeError", some [("count", .int ps.length)]⟩ ρ := by
  obtain ⟨ρ, e⟩ := exc_check_size ps.length 1 60 (by omega)
  simp [m_check_places, runB, b_check_places, sSeq, sIf, sSet, sRet, sRetN, sExpr, sNil, sFor, sAsg, sSetIx, sPut, sAug, putV, eV, eC, sub, fz, b2, b1, e3, con, ali, toB, eT, tru, tNt, tAn, tO, eAn, eO, eNt, eIf, aC, aN, conL, aliL, eLst, eTup, eDct, oO, oI, eSl, pSl, eB, qAbs, qInt, qList, qTuple, pAdd, pSub, pMul, pDiv, pMod, pPow, pOrd, pEq, pNe, pEqB, pNeg, pIsN, pIn, pDx, int?, lst?, dct?, tup?, key?, getMu, putMu, getL, getD', mApp, mPop, mPopAt, mGet2, mIndex, gN, gC, gT, iSeq, run_range1, run_range2, iEnum1, iZip2, eCall, eCallI, kCall, kCallI, M.thr, run_setS, run_setF, run_setO, h.len, h.walk, e]
theorem exc2_check_places {d : Dv} {ps : List Int} {p : Int} (h : Seqd d ps) (h1 : 1 ≤ ps.length) (h2 : ps.length ≤ 60) (hw : wrong ps = some p) : ∃ ρ, m_check_places [.val d] = .exc ⟨"NumberError", some [("number", .int p)]⟩ ρ := by
  have e := run_check_size ps.length 1 60 (by omega) (by omega)
  have l := cp_loop (d := d) ps .no .no
  rw [hw] at l
  obtain ⟨s', l⟩ := l
  simp [m_check_places, runB, b_check_places, sSeq, sIf, sSet, sRet, sRetN, sExpr, sNil, sFor, sAsg, sSetIx, sPut, sAug, putV, eV, eC, sub, fz, b2, b1, e3, con, ali, toB, eT, tru, tNt, tAn, tO, eAn, eO, eNt, eIf, aC, aN, conL, aliL, eLst, eTup, eDct, oO, oI, eSl, pSl, eB, qAbs, qInt, qList, qTuple, pAdd, pSub, pMul, pDiv, pMod, pPow, pOrd, pEq, pNe, pEqB, pNeg, pIsN, pIn, pDx, int?, lst?, dct?, tup?, key?, getMu, putMu, getL, getD', mApp, mPop, mPopAt, mGet2, mIndex, gN, gC, gT, iSeq, run_range1, run_range2, iEnum1, iZip2, eCall, eCallI, kCall, kCallI, M.thr, run_setS, run_setF, run_setO, h.len, h.walk, e, l]
end K42
end
section
set_option Elab.async false
set_option linter.all false
set_option maxRecDepth 100000
set_option maxHeartbeats 4000000
namespace K42
open PySem L2 P0

def near (a b : Int) : Bool := decide (-2 < a - b) && decide (a - b < 2)
def lieS (t : Int) (acc : List (Int × Bool)) (p : Int) : Bool := decide ((acc.length : Int) = t) || acc.any fun q => q.2 && near q.1 p
def onG (t : Int) : List (Int × Bool) → List Int → List (Int × Bool)
  | acc, [] => acc
  | acc, p :: ps => onG t (acc ++ [(p, lieS t acc p)]) ps
theorem putD_some {α : Type} {kvs : List (Key × α)} {k k' : Key} {v : α} : (valD (putD kvs k v) k').isSome = (decide (k = k') || (valD kvs k').isSome) := by
  unfold putD valD
  split
  · rename_i h
    simp only [Option.isSome_map, List.find?_isSome, List.isSome_find?] at *
    rw [List.any_map]
    by_cases hk : k = k'
    · subst hk
      simp only [decide_true, Bool.true_or]
      rw [List.any_eq_true] at h ⊢
      obtain ⟨x, hx, hx2⟩ := h
      refine ⟨x, hx, ?_⟩
      have : x.1 = k := of_decide_eq_true hx2
      simp [this]
    · simp only [hk, decide_false, Bool.false_or]
      congr 1
      funext x
      by_cases hx : x.1 = k
      · simp [hx]
      · simp [hx]
  · rename_i h
    simp only [Option.isSome_map, List.isSome_find?, List.any_append, List.any_cons, List.any_nil, Bool.or_false]
    rw [Bool.or_comm]
theorem putD_len {α : Type} {kvs : List (Key × α)} {k : Key} {v : α} : (putD kvs k v).length ≤ kvs.length + 1 := by
  unfold putD
  split
  · simp
  · simp
/-- the dict of what is near -/
def Near (kvs : List (Key × Dv)) (acc : List (Int × Bool)) : Prop := ∀ k : Int, (valD kvs (.inl k : Key)).isSome = acc.any fun q => q.2 && near q.1 k
theorem near3 (p k : Int) : near p k = (decide (k = p - 1) || decide (k = p) || decide (k = p + 1)) := by
  unfold near
  rw [Bool.eq_iff_iff]
  simp only [Bool.and_eq_true, Bool.or_eq_true, decide_eq_true_eq]
  omega
theorem rng3 (p : Int) : rng (p - 1) (p + 2 - (p - 1)).toNat = [.int (p - 1), .int p, .int (p + 1)] := by
  have : (p + 2 - (p - 1)).toNat = 3 := by omega
  rw [this]
  simp [rng, List.range_succ]
  omega
theorem ly_inner {a b c e f g : Sl} {kvs : List (Key × Dv)} {p : Int} {h : Sl} (hh : NV h) (hl : kvs.length + 3 < sizeLine) :
    ∃ kvs', (∀ k : Int, (valD kvs' (.inl k : Key)).isSome = (near p k || (valD kvs (.inl k : Key)).isSome)) ∧ kvs'.length ≤ kvs.length + 3 ∧
      forL (setS 7) L1_lying_on [.int (p - 1), .int p, .int (p + 1)] [a, b, .mu false (.dct kvs), c, e, f, g, h] = .ok .nx [a, b, .mu false (.dct kvs'), c, e, f, g, .val (.int (p + 1))] := by
  refine ⟨putD (putD (putD kvs (.inl (p - 1)) (.bl true)) (.inl p) (.bl true)) (.inl (p + 1)) (.bl true), fun k => ?_, ?_, ?_⟩
  · rw [putD_some, putD_some, putD_some, near3]
    have e1 : decide ((.inl (p + 1) : Key) = .inl k) = decide (k = p + 1) := by rw [decide_eq_decide]; exact ⟨fun h => by cases h; rfl, fun h => by rw [h]⟩
    have e2 : decide ((.inl p : Key) = .inl k) = decide (k = p) := by rw [decide_eq_decide]; exact ⟨fun h => by cases h; rfl, fun h => by rw [h]⟩
    have e3 : decide ((.inl (p - 1) : Key) = .inl k) = decide (k = p - 1) := by rw [decide_eq_decide]; exact ⟨fun h => by cases h; rfl, fun h => by rw [h]⟩
    rw [e1, e2, e3]
    cases decide (k = p + 1) <;> cases decide (k = p) <;> cases decide (k = p - 1) <;> rfl
  · have h1 := putD_len (kvs := kvs) (k := .inl (p - 1)) (v := Dv.bl true)
    have h2 := putD_len (kvs := putD kvs (.inl (p - 1)) (Dv.bl true)) (k := .inl p) (v := Dv.bl true)
    have h3 := putD_len (kvs := putD (putD kvs (.inl (p - 1)) (Dv.bl true)) (.inl p) (.bl true)) (k := .inl (p + 1)) (v := Dv.bl true)
    omega
  · have h1 := putD_len (kvs := kvs) (k := .inl (p - 1)) (v := Dv.bl true)
    have h2 := putD_len (kvs := putD kvs (.inl (p - 1)) (Dv.bl true)) (k := .inl p) (v := Dv.bl true)
    have q1 : kvs.length < sizeLine := by omega
    have q2 : (putD kvs (.inl (p - 1)) (Dv.bl true)).length < sizeLine := by omega
    have q3 : (putD (putD kvs (.inl (p - 1)) (Dv.bl true)) (.inl p) (Dv.bl true)).length < sizeLine := by omega
    simp [forL, L1_lying_on, sSeq, sIf, sSet, sRet, sRetN, sExpr, sNil, sFor, sAsg, sSetIx, sPut, sAug, putV, eV, eC, sub, fz, b2, b1, e3, con, ali, toB, eT, tru, tNt, tAn, tO, eAn, eO, eNt, eIf, aC, aN, conL, aliL, eLst, eTup, eDct, oO, oI, eSl, pSl, eB, qLen, qAbs, qInt, qList, qTuple, pAdd, pSub, pMul, pDiv, pMod, pPow, pOrd, pEq, pNe, pEqB, pNeg, pIsN, pIn, pIx, pDx, items?, int?, lst?, dct?, tup?, key?, getMu, putMu, getL, getD', mApp, mPop, mPopAt, mGet2, mIndex, gN, gC, gT, iSeq, walk?, run_range1, run_range2, iEnum1, iZip2, eCall, eCallI, kCall, kCallI, M.thr, run_setS, run_setF, run_setO, hh.io, q1, q2, q3]
theorem ly_loop {d : Dv} {t : Int} : ∀ (ps : List Int) (acc : List (Int × Bool)) (kvs : List (Key × Dv)) (s4 s5 s6 s7 : Sl), NV s4 → NV s5 → NV s6 → NV s7 → Near kvs acc → kvs.length ≤ 3 * acc.length → acc.length + ps.length ≤ 60 → (∀ p ∈ ps, -60 ≤ p ∧ p ≤ 60) →
    ∃ kvs' s4' s5' s6' s7', forL (gT 2 (gC (setS 4) (gC (setS 5) gN))) L2_lying_on (((iz ps).zipIdx acc.length).map fun p => Dv.tup [.int p.2, p.1]) [.val d, .val (.int t), .mu false (.dct kvs), .mu false (.lst (bz (acc.map (·.2)))), s4, s5, s6, s7] =
      .ok .nx [.val d, .val (.int t), .mu false (.dct kvs'), .mu false (.lst (bz ((onG t acc ps).map (·.2)))), s4', s5', s6', s7']
  | [], acc, kvs, s4, s5, s6, s7, _, _, _, _, _, _, _, _ => ⟨kvs, s4, s5, s6, s7, rfl⟩
  | p :: ps, acc, kvs, s4, s5, s6, s7, h4, h5, h6, h7, hN, hk, hl, hb => by
    obtain ⟨hp1, hp2⟩ := hb p List.mem_cons_self
    have big : 1000 ≤ sizeLine := by decide
    rw [List.length_cons] at hl
    have hq : acc.length < sizeLine := by omega
    have hN' := hN p
    cases hlie : lieS t acc p with
    | false =>
      have hl0 : decide ((acc.length : Int) = t) = false ∧ (acc.any fun q => q.2 && near q.1 p) = false := by
        unfold lieS at hlie
        rwa [Bool.or_eq_false_iff] at hlie
      obtain ⟨kvs', a4, a5, a6, a7, ih⟩ := ly_loop (d := d) (t := t) ps (acc ++ [(p, false)]) kvs (.val (.int acc.length)) (.val (.int p)) (.val (.bl false)) s7 (.val _) (.val _) (.val _) h7 (fun k => by rw [hN k]; simp) (by simp; omega) (by simp; omega) (fun q hq => hb q (List.mem_cons_of_mem _ hq))
      refine ⟨kvs', a4, a5, a6, a7, ?_⟩
      have body : L2_lying_on [.val d, .val (.int t), .mu false (.dct kvs), .mu false (.lst (bz (acc.map (·.2)))), .val (.int acc.length), .val (.int p), s6, s7] =
          .ok .nx [.val d, .val (.int t), .mu false (.dct kvs), .mu false (.lst (bz ((acc ++ [(p, false)]).map (·.2)))), .val (.int acc.length), .val (.int p), .val (.bl false), s7] := by
        rw [hl0.2] at hN'
        have e1 := of_decide_eq_false hl0.1
        simp [L2_lying_on, sSeq, sIf, sSet, sRet, sRetN, sExpr, sNil, sFor, sAsg, sSetIx, sPut, sAug, putV, eV, eC, sub, fz, b2, b1, e3, con, ali, toB, eT, tru, tNt, tAn, tO, eAn, eO, eNt, eIf, aC, aN, conL, aliL, eLst, eTup, eDct, oO, oI, eSl, pSl, eB, qLen, qAbs, qInt, qList, qTuple, pAdd, pSub, pMul, pDiv, pMod, pPow, pOrd, pEq, pNe, pEqB, pNeg, pIsN, pIn, pIx, pDx, items?, int?, lst?, dct?, tup?, key?, getMu, putMu, getL, getD', mApp, mPop, mPopAt, mGet2, mIndex, gN, gC, gT, iSeq, walk?, run_range1, run_range2, iEnum1, iZip2, eCall, eCallI, kCall, kCallI, M.thr, run_setS, run_setF, run_setO, pInB, h6.io, hq, hN', e1]
      rw [onG, hlie]
      simp only [iz_cons, List.zipIdx_cons, List.map_cons, forL, run_bind]
      simp [gT, gC, gN, tup?, run_setS, h4.io, h5.io]
      rw [body]
      simpa using ih
    | true =>
      obtain ⟨kv1, hv1, hv2, hv3⟩ := ly_inner (a := .val d) (b := .val (.int t)) (c := .mu false (.lst (bz (acc.map (·.2))))) (e := .val (.int acc.length)) (f := .val (.int p)) (g := .val (.bl true)) (kvs := kvs) (p := p) h7 (by omega)
      obtain ⟨kvs', a4, a5, a6, a7, ih⟩ := ly_loop (d := d) (t := t) ps (acc ++ [(p, true)]) kv1 (.val (.int acc.length)) (.val (.int p)) (.val (.bl true)) (.val (.int (p + 1))) (.val _) (.val _) (.val _) (.val _) (fun k => by rw [hv1 k, hN k]; simp [Bool.or_comm]) (by simp; omega) (by simp; omega) (fun q hq => hb q (List.mem_cons_of_mem _ hq))
      refine ⟨kvs', a4, a5, a6, a7, ?_⟩
      have r1 := rg2_ok (i := p - 1) (j := p + 2) (r62 (by omega) (by omega)) (r62 (by omega) (by omega))
      have body : L2_lying_on [.val d, .val (.int t), .mu false (.dct kvs), .mu false (.lst (bz (acc.map (·.2)))), .val (.int acc.length), .val (.int p), s6, s7] =
          .ok .nx [.val d, .val (.int t), .mu false (.dct kv1), .mu false (.lst (bz ((acc ++ [(p, true)]).map (·.2)))), .val (.int acc.length), .val (.int p), .val (.bl true), .val (.int (p + 1))] := by
        unfold lieS at hlie
        by_cases e1 : (acc.length : Int) = t
        · subst e1
          simp [L2_lying_on, sSeq, sIf, sSet, sRet, sRetN, sExpr, sNil, sFor, sAsg, sSetIx, sPut, sAug, putV, eV, eC, sub, fz, b2, b1, e3, con, ali, toB, eT, tru, tNt, tAn, tO, eAn, eO, eNt, eIf, aC, aN, conL, aliL, eLst, eTup, eDct, oO, oI, eSl, pSl, eB, qLen, qAbs, qInt, qList, qTuple, pAdd, pSub, pMul, pDiv, pMod, pPow, pOrd, pEq, pNe, pEqB, pNeg, pIsN, pIn, pIx, pDx, items?, int?, lst?, dct?, tup?, key?, getMu, putMu, getL, getD', mApp, mPop, mPopAt, mGet2, mIndex, gN, gC, gT, iSeq, walk?, run_range1, run_range2, iEnum1, iZip2, eCall, eCallI, kCall, kCallI, M.thr, run_setS, run_setF, run_setO, pInB, h6.io, ints?, r1, rng3, hv3, hq]
        · rw [decide_eq_false e1, Bool.false_or] at hlie
          rw [hlie] at hN'
          simp [L2_lying_on, sSeq, sIf, sSet, sRet, sRetN, sExpr, sNil, sFor, sAsg, sSetIx, sPut, sAug, putV, eV, eC, sub, fz, b2, b1, e3, con, ali, toB, eT, tru, tNt, tAn, tO, eAn, eO, eNt, eIf, aC, aN, conL, aliL, eLst, eTup, eDct, oO, oI, eSl, pSl, eB, qLen, qAbs, qInt, qList, qTuple, pAdd, pSub, pMul, pDiv, pMod, pPow, pOrd, pEq, pNe, pEqB, pNeg, pIsN, pIn, pIx, pDx, items?, int?, lst?, dct?, tup?, key?, getMu, putMu, getL, getD', mApp, mPop, mPopAt, mGet2, mIndex, gN, gC, gT, iSeq, walk?, run_range1, run_range2, iEnum1, iZip2, eCall, eCallI, kCall, kCallI, M.thr, run_setS, run_setF, run_setO, pInB, h6.io, e1, hN', ints?, r1, rng3, hv3, hq]
      rw [onG, hlie]
      simp only [iz_cons, List.zipIdx_cons, List.map_cons, forL, run_bind]
      simp [gT, gC, gN, tup?, run_setS, h4.io, h5.io]
      rw [body]
      simpa using ih
theorem run_lying_on {d : Dv} {ps : List Int} (t : Int) (h : Seqd d ps) (hl : ps.length ≤ 60) (hb : ∀ p ∈ ps, -60 ≤ p ∧ p ≤ 60) : ∃ ρ, m_lying_on [.val d, .val (.int t)] = .ok (.fr (.lst (bz ((onG t [] ps).map (·.2))))) ρ := by
  obtain ⟨kvs', s4, s5, s6, s7, e⟩ := ly_loop (d := d) (t := t) ps [] [] .no .no .no .no .no .no .no .no (fun k => rfl) (by simp) (by simpa using hl) hb
  have e' : forL (gT 2 (gC (setS 4) (gC (setS 5) gN))) L2_lying_on (enumD (iz ps)) [.val d, .val (.int t), .mu false (.dct []), .mu false (.lst []), .no, .no, .no, .no] = _ := e
  simp [m_lying_on, runB, b_lying_on, sSeq, sSet, sFor, sRet, putV, run_setF, eDct, eLst, aN, aC, aliL, ali, sub, eV, fz, iEnum1, h.walk, e']
end K42
end
section
set_option Elab.async false
set_option linter.all false
set_option maxRecDepth 100000
set_option maxHeartbeats 4000000
namespace K42
open PySem L2 P0

theorem rng_succ (lo : Int) (n : Nat) : rng lo (n + 1) = .int lo :: rng (lo + 1) n := by
  unfold rng
  rw [List.range_succ_eq_map, List.map_cons, List.map_map]
  congr 1
  · simp
  · apply List.map_congr_left
    intro i _
    simp
    omega
theorem rng_zero (lo : Int) : rng lo 0 = [] := rfl
theorem onG_fst (t : Int) : ∀ (ps : List Int) (acc : List (Int × Bool)), (onG t acc ps).map (·.1) = acc.map (·.1) ++ ps
  | [], acc => by simp [onG]
  | p :: ps, acc => by rw [onG, onG_fst t ps]; simp
theorem onG_length (t : Int) (ps : List Int) (acc : List (Int × Bool)) : (onG t acc ps).length = acc.length + ps.length := by
  have := congrArg List.length (onG_fst t ps acc)
  simpa using this
theorem onG_append (t : Int) : ∀ (ps qs : List Int) (acc : List (Int × Bool)), onG t acc (ps ++ qs) = onG t (onG t acc ps) qs
  | [], _, _ => rfl
  | p :: ps, qs, acc => by rw [List.cons_append, onG, onG_append t ps qs, onG]
/-- ahead of t nothing lies -/
theorem onG_ahead (t : Int) : ∀ (ps : List Int) (acc : List (Int × Bool)), (∀ (j : Nat) q, acc[j]? = some q → (j : Int) < t → q.2 = false) → ∀ (j : Nat) q, (onG t acc ps)[j]? = some q → (j : Int) < t → q.2 = false
  | [], acc, h => h
  | p :: ps, acc, h => by
    rw [onG]
    refine onG_ahead t ps _ fun j q hj hlt => ?_
    rcases Nat.lt_or_ge j acc.length with hl | hl
    · rw [List.getElem?_append_left hl] at hj
      exact h j q hj hlt
    · rw [List.getElem?_append_right hl] at hj
      have hz : j = acc.length := by
        rcases Nat.eq_zero_or_pos (j - acc.length) with z | z
        · omega
        · rw [List.getElem?_eq_none (by simp; omega)] at hj; cases hj
      subst hz
      simp at hj
      subst hj
      show lieS t acc p = false
      unfold lieS
      rw [decide_eq_false (by omega), Bool.false_or, List.any_eq_false]
      intro q hq
      obtain ⟨i, hi, rfl⟩ := List.getElem_of_mem hq
      have := h i acc[i] (List.getElem?_eq_getElem hi) (by omega)
      simp [this]
theorem any_drop {α : Type} (f : α → Bool) : ∀ (l : List α) (n : Nat), (∀ (j : Nat) q, l[j]? = some q → j < n → f q = false) → (l.drop n).any f = l.any f
  | [], n, _ => by simp
  | a :: l, 0, _ => rfl
  | a :: l, n + 1, h => by
    have h0 := h 0 a rfl (by omega)
    rw [List.drop_succ_cons, List.any_cons, h0, Bool.false_or]
    exact any_drop f l n fun j q hj hn => h (j + 1) q (by simpa using hj) (by omega)
theorem near_abs (a b : Int) : decide ((if a - b < 0 then -(a - b) else a - b) < 2) = near a b := by
  unfold near
  rw [← Bool.decide_and, decide_eq_decide]
  split <;> omega
section
variable {d : Dv} {ps : List Int}
theorem lo_inner (h : Seqd d ps) {t : Sl} {acc : List (Int × Bool)} {p : Int} (hpre : ∀ (j : Nat) (q : Int × Bool), acc[j]? = some q → ps[j]? = some q.1) (hp : ps[acc.length]? = some p) : ∀ (n j : Nat) (b : Bool) (s5 : Sl), j + n = acc.length → NV s5 →
    ∃ s5', NV s5' ∧ forL (setS 5) L1__law_on (rng j n) [.val d, t, .mu false (.lst (bz (acc.map (·.2)))), .val (.int acc.length), .val (.bl b), s5] =
      .ok .nx [.val d, t, .mu false (.lst (bz (acc.map (·.2)))), .val (.int acc.length), .val (.bl (b || (acc.drop j).any fun q => q.2 && near q.1 p)), s5']
  | 0, j, b, s5, hj, h5 => by
    have : acc.drop j = [] := List.drop_eq_nil_of_le (by omega)
    exact ⟨s5, h5, by rw [this, rng_zero]; simp [forL]⟩
  | n + 1, j, b, s5, hj, h5 => by
    have hlt : j < acc.length := by omega
    have hq : acc[j]? = some acc[j] := List.getElem?_eq_getElem hlt
    have hpj := hpre j _ hq
    have hpl : j < ps.length := lt_of_get hpj
    have hkl : acc.length < ps.length := lt_of_get hp
    have e1 : pIx d (.int (j : Int)) = fun ρ => .ok (.d (.int acc[j].1)) ρ := by
      funext ρ
      rw [h.ix, atI_iz, atI_at hpl]
      rw [List.getElem?_eq_getElem hpl] at hpj
      rw [Option.some.inj hpj]
      rfl
    have e2 : pIx d (.int (acc.length : Int)) = fun ρ => .ok (.d (.int p)) ρ := by
      funext ρ
      rw [h.ix, atI_iz, atI_at hkl]
      rw [List.getElem?_eq_getElem hkl] at hp
      rw [Option.some.inj hp]
      rfl
    have e3 : atI (bz (acc.map (·.2))) (j : Int) = some (.bl acc[j].2) := by
      rw [atI_bz, atI_at (by simpa using hlt)]; simp
    have e3' : pIx (.lst (bz (acc.map (·.2)))) (.int (j : Int)) = fun ρ => .ok (.d (.bl acc[j].2)) ρ := by
      funext ρ
      simp [pIx, items?, e3]
    have nb := near_abs acc[j].1 p
    have body : L1__law_on [.val d, t, .mu false (.lst (bz (acc.map (·.2)))), .val (.int acc.length), .val (.bl b), .val (.int j)] =
        .ok .nx [.val d, t, .mu false (.lst (bz (acc.map (·.2)))), .val (.int acc.length), .val (.bl (b || (acc[j].2 && near acc[j].1 p))), .val (.int j)] := by
      cases hb : acc[j].2 with
      | false => simp [L1__law_on, sSeq, sIf, sSet, sRet, sRetN, sExpr, sNil, sFor, sAsg, sSetIx, sPut, sAug, putV, eV, eC, sub, fz, b2, b1, e3, con, ali, toB, eT, tru, tNt, tAn, tO, eAn, eO, eNt, eIf, aC, aN, conL, aliL, eLst, eTup, eDct, oO, oI, eSl, pSl, eB, qAbs, qInt, qList, qTuple, pAdd, pSub, pMul, pDiv, pMod, pPow, pOrd, pEq, pNe, pEqB, pNeg, pIsN, pIn, pDx, int?, lst?, dct?, tup?, key?, getMu, putMu, getL, getD', mApp, mPop, mPopAt, mGet2, mIndex, gN, gC, gT, iSeq, run_range1, run_range2, iEnum1, iZip2, eCall, eCallI, kCall, kCallI, M.thr, run_setS, run_setF, run_setO, e3', hb]
      | true =>
        simp [L1__law_on, sSeq, sIf, sSet, sRet, sRetN, sExpr, sNil, sFor, sAsg, sSetIx, sPut, sAug, putV, eV, eC, sub, fz, b2, b1, e3, con, ali, toB, eT, tru, tNt, tAn, tO, eAn, eO, eNt, eIf, aC, aN, conL, aliL, eLst, eTup, eDct, oO, oI, eSl, pSl, eB, qAbs, qInt, qList, qTuple, pAdd, pSub, pMul, pDiv, pMod, pPow, pOrd, pEq, pNe, pEqB, pNeg, pIsN, pIn, pDx, int?, lst?, dct?, tup?, key?, getMu, putMu, getL, getD', mApp, mPop, mPopAt, mGet2, mIndex, gN, gC, gT, iSeq, run_range1, run_range2, iEnum1, iZip2, eCall, eCallI, kCall, kCallI, M.thr, run_setS, run_setF, run_setO, e1, e2, e3', hb]
        cases hn : near acc[j].1 p with
        | false =>
          rw [hn] at nb
          have nb := of_decide_eq_false nb
          simp [nb]
        | true =>
          rw [hn] at nb
          have nb := of_decide_eq_true nb
          simp [nb, run_setS]
    obtain ⟨s5', n5, ih⟩ := lo_inner h (t := t) hpre hp n (j + 1) (b || (acc[j].2 && near acc[j].1 p)) (.val (.int j)) (by omega) (.val _)
    refine ⟨s5', n5, ?_⟩
    rw [rng_succ]
    simp only [forL, run_bind]
    rw [run_setS (by simp) (by simp [h5.io])]
    simp only [List.set_cons_succ, List.set_cons_zero]
    rw [body]
    rw [List.drop_eq_getElem_cons hlt, List.any_cons, ← Bool.or_assoc]
    exact_mod_cast ih
theorem lo_b1 {t k : Int} {xs : List Dv} {b : Bool} {d : Dv} {s4 s5 s5' : Sl} (h4 : NV s4) (hz : xs.length < sizeLine) (g1 : ∀ ρ, rg2 (some [t, k]) ρ = .ok (rng t (k - t).toNat) ρ)
   (hin : forL (setS 5) L1__law_on (rng t (k - t).toNat) [.val d, .val (.int t), .mu false (.lst xs), .val (.int k), .val (.bl (decide (k = t))), s5] = .ok .nx [.val d, .val (.int t), .mu false (.lst xs), .val (.int k), .val (.bl b), s5']) :
    L2__law_on [.val d, .val (.int t), .mu false (.lst xs), .val (.int k), s4, s5] = .ok .nx [.val d, .val (.int t), .mu false (.lst (xs ++ [.bl b])), .val (.int k), .val (.bl b), s5'] := by
  simp [L2__law_on, sSeq, sIf, sSet, sRet, sRetN, sExpr, sNil, sFor, sAsg, sSetIx, sPut, sAug, putV, eV, eC, sub, fz, b2, b1, e3, con, ali, toB, eT, tru, tNt, tAn, tO, eAn, eO, eNt, eIf, aC, aN, conL, aliL, eLst, eTup, eDct, oO, oI, eSl, pSl, eB, qLen, qAbs, qInt, qList, qTuple, pAdd, pSub, pMul, pDiv, pMod, pPow, pOrd, pEq, pNe, pEqB, pNeg, pIsN, pIn, pIx, pDx, items?, int?, lst?, dct?, tup?, key?, getMu, putMu, getL, getD', mApp, mPop, mPopAt, mGet2, mIndex, gN, gC, gT, iSeq, walk?, run_range1, run_range2, iEnum1, iZip2, eCall, eCallI, kCall, kCallI, M.thr, run_setS, run_setF, run_setO, h4.io, ints?, g1, hin, hz]
theorem lo_body (h : Seqd d ps) {t : Nat} (ht : t ≤ 100) {acc : List (Int × Bool)} {p : Int} {s4 s5 : Sl} (hk : acc.length ≤ 100) (h4 : NV s4) (h5 : NV s5) (hp : ps[acc.length]? = some p) (hpre : ∀ (j : Nat) (q : Int × Bool), acc[j]? = some q → ps[j]? = some q.1) (ha : ∀ (j : Nat) (q : Int × Bool), acc[j]? = some q → (j : Int) < (t : Int) → q.2 = false) :
    ∃ s5', NV s5' ∧ L2__law_on [.val d, .val (.int t), .mu false (.lst (bz (acc.map (·.2)))), .val (.int acc.length), s4, s5] =
        .ok .nx [.val d, .val (.int t), .mu false (.lst (bz ((acc ++ [(p, lieS t acc p)]).map (·.2)))), .val (.int acc.length), .val (.bl (lieS t acc p)), s5'] := by
  have hd := any_drop (fun q : Int × Bool => q.2 && near q.1 p) acc t fun j q hj hlt => by
    rw [ha j q hj (by exact_mod_cast hlt)]; rfl
  obtain ⟨s5', n5, hin⟩ : ∃ s5', NV s5' ∧ forL (setS 5) L1__law_on (rng t (acc.length - t)) [.val d, .val (.int t), .mu false (.lst (bz (acc.map (·.2)))), .val (.int acc.length), .val (.bl (decide ((acc.length : Int) = t))), s5] =
      .ok .nx [.val d, .val (.int t), .mu false (.lst (bz (acc.map (·.2)))), .val (.int acc.length), .val (.bl (lieS t acc p)), s5'] := by
    unfold lieS
    rw [← hd]
    rcases Nat.le_total t acc.length with hle | hle
    · exact lo_inner h hpre hp (acc.length - t) t _ s5 (by omega) h5
    · rw [Nat.sub_eq_zero_of_le hle, rng_zero, List.drop_eq_nil_of_le hle]
      exact ⟨s5, h5, by simp [forL]⟩
  have hz : acc.length < sizeLine := Nat.lt_of_le_of_lt hk (by decide)
  have g1 := rg2_ok (i := t) (j := acc.length) (r62n (by omega)) (r62n (by omega))
  rw [show acc.length - t = ((acc.length : Int) - t).toNat by omega] at hin
  have := lo_b1 h4 (xs := bz (acc.map (·.2))) (by simpa using hz) g1 hin
  exact ⟨s5', n5, by simpa using this⟩
theorem lo_outer (h : Seqd d ps) {t : Nat} (ht : t ≤ 100) (hps : ps.length ≤ 100) (qs : List Int) : ∀ (acc : List (Int × Bool)) (s3 s4 s5 : Sl), acc.map (·.1) ++ qs = ps → NV s3 → NV s4 → NV s5 → (∀ (j : Nat) (q : Int × Bool), acc[j]? = some q → (j : Int) < (t : Int) → q.2 = false) →
    ∃ s3' s4' s5', forL (setS 3) L2__law_on (rng acc.length qs.length) [.val d, .val (.int t), .mu false (.lst (bz (acc.map (·.2)))), s3, s4, s5] =
      .ok .nx [.val d, .val (.int t), .mu false (.lst (bz ((onG t acc qs).map (·.2)))), s3', s4', s5'] := by
  induction qs with
  | nil => exact fun acc s3 s4 s5 _ _ _ _ _ => ⟨s3, s4, s5, rfl⟩
  | cons p qs ih =>
    intro acc s3 s4 s5 he h3 h4 h5 ha
    have hl : acc.length + (qs.length + 1) = ps.length := by rw [← he]; simp
    have hp : ps[acc.length]? = some p := by rw [← he]; rw [List.getElem?_append_right (by simp)]; simp
    have hpre : ∀ (j : Nat) (q : Int × Bool), acc[j]? = some q → ps[j]? = some q.1 := fun j q hj => by
      have := lt_of_get hj
      rw [← he, List.getElem?_append_left (by simpa using this), List.getElem?_map, hj]; rfl
    obtain ⟨s5', n5, body⟩ := lo_body h ht (by omega) h4 h5 hp hpre ha
    obtain ⟨a3, a4, a5, ih⟩ := ih (acc ++ [(p, lieS t acc p)]) (.val (.int acc.length)) (.val (.bl (lieS t acc p))) s5' (by simp [← he]) (.val _) (.val _) n5 fun j q hj hlt => onG_ahead t [p] acc ha j q (by simpa [onG] using hj) hlt
    refine ⟨a3, a4, a5, ?_⟩
    rw [List.length_cons, rng_succ]
    simp only [forL, run_bind]
    rw [run_setS (by simp) (by simp [h3.io])]
    simp only [List.set_cons_succ, List.set_cons_zero]
    rw [body, onG]
    simp only
    have e : ((acc.length : Int) + 1) = ((acc ++ [(p, lieS t acc p)]).length : Nat) := by simp
    rw [e]
    exact ih
theorem run__law_on (h : Seqd d ps) {t : Nat} (ht : t ≤ 100) (hps : ps.length ≤ 100) : ∃ ρ, m__law_on [.val d, .val (.int t)] = .ok (.fr (.lst (bz ((onG t [] ps).map (·.2))))) ρ := by
  obtain ⟨s3, s4, s5, e⟩ := lo_outer h ht hps ps [] .no .no .no rfl .no .no .no (fun j q hj => by simp at hj)
  have g1 := rg1_ok (j := ps.length) (r62n (by omega))
  have e' : forL (setS 3) L2__law_on (rng 0 ps.length) [.val d, .val (.int t), .mu false (.lst []), .no, .no, .no] = _ := e
  simp [m__law_on, runB, b__law_on, sSeq, sIf, sSet, sRet, sRetN, sExpr, sNil, sFor, sAsg, sSetIx, sPut, sAug, putV, eV, eC, sub, fz, b2, b1, e3, con, ali, toB, eT, tru, tNt, tAn, tO, eAn, eO, eNt, eIf, aC, aN, conL, aliL, eLst, eTup, eDct, oO, oI, eSl, pSl, eB, qAbs, qInt, qList, qTuple, pAdd, pSub, pMul, pDiv, pMod, pPow, pOrd, pEq, pNe, pEqB, pNeg, pIsN, pIn, pDx, int?, lst?, dct?, tup?, key?, getMu, putMu, getL, getD', mApp, mPop, mPopAt, mGet2, mIndex, gN, gC, gT, iSeq, run_range1, run_range2, iEnum1, iZip2, eCall, eCallI, kCall, kCallI, M.thr, run_setS, run_setF, run_setO, h.len, ints?, g1, e']
end
end K42
end
section
set_option Elab.async false
set_option linter.all false
set_option maxRecDepth 100000
set_option maxHeartbeats 4000000
namespace K42
open PySem L2 P0

/-! ### first_astray -/
def fF : List Bool → Nat → Option Nat
  | [], _ => none
  | false :: _, i => some i
  | true :: r, i => fF r (i + 1)
def optI : Option Nat → Dv
  | some i => .int i
  | none => .non
theorem fa_loop {d : Dv} : ∀ (bs : List Bool) (i : Nat) (s1 s2 : Sl), NV s1 → NV s2 → ∃ s1' s2', forL (gT 2 (gC (setS 1) (gC (setS 2) gN))) L1_first_astray (((bz bs).zipIdx i).map fun p => Dv.tup [.int p.2, p.1]) [.val d, s1, s2] =
    (match fF bs i with
    | some j => .ok (.rt (.d (.int j))) [.val d, s1', s2']
    | none => .ok .nx [.val d, s1', s2'])
  | [], i, s1, s2, _, _ => ⟨s1, s2, rfl⟩
  | false :: bs, i, s1, s2, h1, h2 => ⟨.val (.int i), .val (.bl false), by simp [forL, gT, gC, gN, tup?, run_setS, h1.io, h2.io, L1_first_astray, fF, sIf, tNt, eT, sub, eV, fz, con, tru, sRet]⟩
  | true :: bs, i, s1, s2, h1, h2 => by
    obtain ⟨a, b, ih⟩ := fa_loop (d := d) bs (i + 1) (.val (.int i)) (.val (.bl true)) (.val _) (.val _)
    refine ⟨a, b, ?_⟩
    simp only [bz_cons, List.zipIdx_cons, List.map_cons, forL, run_bind]
    simp only [fF]
    rw [← ih]
    simp [gT, gC, gN, tup?, run_setS, h1.io, h2.io, L1_first_astray, sIf, tNt, eT, sub, eV, fz, con, tru, sNil]
def astO (ps : List Int) : Option Nat := if ps.head? = some 0 then fF ((onG 0 [] ps).map (·.2)) 0 else some 0
def astray (ps : List Int) : Dv := optI (astO ps)
theorem run_first_astray {d : Dv} {ps : List Int} (h : Seqd d ps) (hl : ps.length ≤ 60) (hne : ps ≠ []) (hb : ∀ p ∈ ps, -60 ≤ p ∧ p ≤ 60) : ∃ ρ, m_first_astray [.val d] = .ok (.d (astray ps)) ρ := by
  obtain ⟨ρ1, e1⟩ := run_lying_on 0 h hl hb
  obtain ⟨p, qs, rfl⟩ := List.exists_cons_of_ne_nil hne
  have e0 : pIx d (.int 0) = fun ρ => .ok (.d (.int p)) ρ := by
    funext ρ
    have e : atI (iz (p :: qs)) 0 = some (.int p) := by
      rw [atI_iz]
      have := atI_at (l := p :: qs) (i := 0) (by simp)
      rw [show ((0 : Int)) = ((0 : Nat) : Int) from rfl, this]; rfl
    rw [h.ix, e]
  unfold astray astO
  by_cases hp : p = 0
  · subst hp
    obtain ⟨s1, s2, e2⟩ := fa_loop (d := d) ((onG 0 [] (0 :: qs)).map (·.2)) 0 .no .no .no .no
    have e2' : forL (gT 2 (gC (setS 1) (gC (setS 2) gN))) L1_first_astray (enumD (bz ((onG 0 [] (0 :: qs)).map (·.2)))) [.val d, .no, .no] = _ := e2
    simp [m_first_astray, runB, b_first_astray, sSeq, sIf, sSet, sRet, sRetN, sExpr, sNil, sFor, sAsg, sSetIx, sPut, sAug, putV, eV, eC, sub, fz, b2, b1, e3, con, ali, toB, eT, tru, tNt, tAn, tO, eAn, eO, eNt, eIf, aC, aN, conL, aliL, eLst, eTup, eDct, oO, oI, eSl, pSl, eB, qAbs, qInt, qList, qTuple, pAdd, pSub, pMul, pDiv, pMod, pPow, pOrd, pEq, pNe, pEqB, pNeg, pIsN, pIn, pDx, int?, lst?, dct?, tup?, key?, getMu, putMu, getL, getD', mApp, mPop, mPopAt, mGet2, mIndex, gN, gC, gT, iSeq, run_range1, run_range2, iEnum1, iZip2, eCall, eCallI, kCall, kCallI, M.thr, run_setS, run_setF, run_setO, e0, e1]
    simp only [walk?, items?, run_opt_some]
    rw [e2']
    cases fF ((onG 0 [] (0 :: qs)).map (·.2)) 0 with
    | none => simp [optI]
    | some j => simp [optI]
  · simp [m_first_astray, runB, b_first_astray, sSeq, sIf, sSet, sRet, sRetN, sExpr, sNil, sFor, sAsg, sSetIx, sPut, sAug, putV, eV, eC, sub, fz, b2, b1, e3, con, ali, toB, eT, tru, tNt, tAn, tO, eAn, eO, eNt, eIf, aC, aN, conL, aliL, eLst, eTup, eDct, oO, oI, eSl, pSl, eB, qAbs, qInt, qList, qTuple, pAdd, pSub, pMul, pDiv, pMod, pPow, pOrd, pEq, pNe, pEqB, pNeg, pIsN, pIn, pDx, int?, lst?, dct?, tup?, key?, getMu, putMu, getL, getD', mApp, mPop, mPopAt, mGet2, mIndex, gN, gC, gT, iSeq, run_range1, run_range2, iEnum1, iZip2, eCall, eCallI, kCall, kCallI, M.thr, run_setS, run_setF, run_setO, e0, hp, optI]
/-! ### drop, _law_levels -/
theorem valD_put {α : Type} {kvs : List (Key × α)} {k k' : Key} {v : α} : valD (putD kvs k v) k' = if k = k' then some v else valD kvs k' := by
  unfold putD valD
  split
  · rename_i h
    have e : ((fun kv : Key × α => decide (kv.1 = k')) ∘ fun kv : Key × α => if kv.1 = k then (kv.1, v) else kv) = fun kv => decide (kv.1 = k') := by
      funext kv
      show decide ((if kv.1 = k then (kv.1, v) else kv).1 = k') = _
      split <;> rfl
    rw [List.find?_map, e]
    cases q : kvs.find? fun kv => decide (kv.1 = k') with
    | none =>
      by_cases hk : k = k'
      · exfalso
        rw [List.any_eq_true] at h
        obtain ⟨x, hx, hx2⟩ := h
        have := List.find?_eq_none.mp q x hx
        rw [← hk] at this
        exact this hx2
      · simp [hk]
    | some y =>
      have hy0 := List.find?_some q
      have hy : y.1 = k' := by simpa using hy0
      by_cases hk : k = k'
      · simp [hk, hy]
      · have : ¬ k' = k := fun z => hk z.symm
        simp [hk, hy, this]
  · rename_i h
    rw [List.find?_append]
    by_cases hk : k = k'
    · subst hk
      have : (kvs.find? fun kv => decide (kv.1 = k)) = none := by
        rw [List.find?_eq_none]
        intro x hx hd
        exact h (List.any_eq_true.mpr ⟨x, hx, hd⟩)
      simp [this]
    · simp [hk]
/-- the greatest level at a place -/
def hiM : List (Int × Int) → Int → Option Int
  | [], _ => none
  | (q, l) :: r, k => if q = k then some (match hiM r k with
    | some m => max l m
    | none => l) else hiM r k
/-- the level of the next one -/
def lvS (acc : List (Int × Int)) (p : Int) : Int := acc.foldl (fun h q => if near q.1 p = true then max h (q.2 + 2 - (if q.1 - p < 0 then -(q.1 - p) else q.1 - p)) else h) 0
def lvG : List (Int × Int) → List Int → List (Int × Int)
  | acc, [] => acc
  | acc, p :: ps => lvG (acc ++ [(p, lvS acc p)]) ps
def mx (a : Int) (o : Option Int) (s : Int) : Int := match o with
  | some v => max a (v + s)
  | none => a
theorem mx3 (p : Int) : ∀ (acc : List (Int × Int)) (b : Int), acc.foldl (fun h q => if near q.1 p = true then max h (q.2 + 2 - (if q.1 - p < 0 then -(q.1 - p) else q.1 - p)) else h) b = mx (mx (mx b (hiM acc (p - 1)) 1) (hiM acc p) 2) (hiM acc (p + 1)) 1
  | [], b => rfl
  | (q, l) :: r, b => by
    rw [List.foldl_cons, mx3 p r]
    have nn : near q p = (decide (p = q - 1) || decide (p = q) || decide (p = q + 1)) := near3 q p
    simp only [hiM]
    by_cases h1 : q = p - 1
    · subst h1
      have a1 : ¬ p - 1 = p := by omega
      have a2 : ¬ p - 1 = p + 1 := by omega
      have n1 : near (p - 1) p = true := by rw [nn]; simp
      have n2 : p - 1 - p < 0 := by omega
      simp only [n1, n2, a1, a2, if_true, if_false]
      cases hiM r (p - 1) <;> cases hiM r p <;> cases hiM r (p + 1) <;> simp only [mx] <;> omega
    · by_cases h2 : q = p
      · subst h2
        have a1 : ¬ q = q - 1 := by omega
        have a2 : ¬ q = q + 1 := by omega
        have n1 : near q q = true := by rw [nn]; simp
        have n2 : ¬ q - q < 0 := by omega
        simp only [n1, n2, a1, a2, if_true, if_false]
        cases hiM r (q - 1) <;> cases hiM r q <;> cases hiM r (q + 1) <;> simp only [mx] <;> omega
      · by_cases h3 : q = p + 1
        · subst h3
          have n1 : near (p + 1) p = true := by rw [nn]; simp
          have n2 : ¬ p + 1 - p < 0 := by omega
          simp only [n1, n2, h1, h2, if_true, if_false]
          cases hiM r (p - 1) <;> cases hiM r p <;> cases hiM r (p + 1) <;> simp only [mx] <;> omega
        · have n1 : near q p = false := by
            rw [nn]
            have b1 : ¬ p = q - 1 := by omega
            have b2 : ¬ p = q := by omega
            have b3 : ¬ p = q + 1 := by omega
            simp [b1, b2, b3]
          simp only [n1, h1, h2, h3, if_false, Bool.false_eq_true]
theorem lvS_mx (acc : List (Int × Int)) (p : Int) : lvS acc p = mx (mx (mx 0 (hiM acc (p - 1)) 1) (hiM acc p) 2) (hiM acc (p + 1)) 1 := mx3 p acc 0
theorem hiM_snoc (p l : Int) : ∀ (acc : List (Int × Int)) (k : Int), hiM (acc ++ [(p, l)]) k = if p = k then some (match hiM acc k with
    | some m => max m l
    | none => l) else hiM acc k
  | [], k => by simp [hiM]
  | (q, m) :: r, k => by
    rw [List.cons_append, hiM, hiM_snoc p l r, hiM]
    by_cases h1 : q = k <;> by_cases h2 : p = k <;> simp only [h1, h2, if_true, if_false]
    cases hiM r k <;> simp only [Option.some.injEq] <;> first | omega | exact (Int.max_assoc _ _ _).symm | exact Int.max_assoc _ _ _ | rfl
theorem lvS_ge (acc : List (Int × Int)) (p m : Int) (h : hiM acc p = some m) : m + 2 ≤ lvS acc p := by
  rw [lvS_mx, h]
  cases hiM acc (p - 1) <;> cases hiM acc (p + 1) <;> simp only [mx] <;> omega
theorem hiM_next (acc : List (Int × Int)) (p k : Int) : hiM (acc ++ [(p, lvS acc p)]) k = if p = k then some (lvS acc p) else hiM acc k := by
  rw [hiM_snoc]
  by_cases h : p = k
  · subst h
    simp only [if_true]
    cases q : hiM acc p with
    | none => rfl
    | some m =>
      have := lvS_ge acc p m q
      simp only [Option.some.injEq]
      omega
  · simp only [h, if_false]
end K42
end
section
set_option Elab.async false
set_option linter.all false
set_option maxRecDepth 100000
set_option maxHeartbeats 4000000
namespace K42
open PySem L2 P0

def DInv (kvs : List (Key × Dv)) (acc : List (Int × Int)) : Prop := ∀ k : Int, valD kvs (.inl k : Key) = (hiM acc k).map Dv.int
theorem mx_if (a v s : Int) : (if v + s > a then v + s else a) = max a (v + s) := by
  rw [Int.max_def]; split <;> split <;> omega
theorem drop_step {d : Sl} {kvs : List (Key × Dv)} {acc : List (Int × Int)} (hd : DInv kvs acc) {r pl : Sl} {l c s : Int} :
    L1_drop [d, .mu false (.dct kvs), r, pl, .val (.int l), .val (.int c), .val (.int s)] = .ok .nx [d, .mu false (.dct kvs), r, pl, .val (.int (mx l (hiM acc c) s)), .val (.int c), .val (.int s)] := by
  have h := hd c
  cases q : hiM acc c with
  | none =>
    rw [q] at h
    simp [L1_drop, sSeq, sIf, sSet, sRet, sRetN, sExpr, sNil, sFor, sAsg, sSetIx, sPut, sAug, putV, eV, eC, sub, fz, b2, b1, e3, con, ali, toB, eT, tru, tNt, tAn, tO, eAn, eO, eNt, eIf, aC, aN, conL, aliL, eLst, eTup, eDct, oO, oI, eSl, pSl, eB, qLen, qAbs, qInt, qList, qTuple, pAdd, pSub, pMul, pDiv, pMod, pPow, pOrd, pEq, pNe, pEqB, pNeg, pIsN, pIn, pIx, pDx, items?, int?, lst?, dct?, tup?, key?, getMu, putMu, getL, getD', mApp, mPop, mPopAt, mGet2, mIndex, gN, gC, gT, iSeq, walk?, run_range1, run_range2, iEnum1, iZip2, eCall, eCallI, kCall, kCallI, M.thr, run_setS, run_setF, run_setO, pInB, h, mx]
  | some v =>
    rw [q] at h
    have e : qMax [.int l, .int (v + s)] = pure (.d (.int (max l (v + s)))) := by
      show pure (RV.d (.int (if v + s > l then v + s else l))) = _
      rw [mx_if]
    simp [L1_drop, sSeq, sIf, sSet, sRet, sRetN, sExpr, sNil, sFor, sAsg, sSetIx, sPut, sAug, putV, eV, eC, sub, fz, b2, b1, e3, con, ali, toB, eT, tru, tNt, tAn, tO, eAn, eO, eNt, eIf, aC, aN, conL, aliL, eLst, eTup, eDct, oO, oI, eSl, pSl, eB, qLen, qAbs, qInt, qList, qTuple, pAdd, pSub, pMul, pDiv, pMod, pPow, pOrd, pEq, pNe, pEqB, pNeg, pIsN, pIn, pIx, pDx, items?, int?, lst?, dct?, tup?, key?, getMu, putMu, getL, getD', mApp, mPop, mPopAt, mGet2, mIndex, gN, gC, gT, iSeq, walk?, run_range1, run_range2, iEnum1, iZip2, eCall, eCallI, kCall, kCallI, M.thr, run_setS, run_setF, run_setO, pInB, h, mx, e]
theorem drop_inner {d : Sl} {kvs : List (Key × Dv)} {acc : List (Int × Int)} (hd : DInv kvs acc) {r pl s5 s6 : Sl} {p : Int} (h5 : NV s5) (h6 : NV s6) :
    forL (gT 2 (gC (setS 5) (gC (setS 6) gN))) L1_drop [.tup [.int (p - 1), .int 1], .tup [.int p, .int 2], .tup [.int (p + 1), .int 1]] [d, .mu false (.dct kvs), r, pl, .val (.int 0), s5, s6] =
      .ok .nx [d, .mu false (.dct kvs), r, pl, .val (.int (lvS acc p)), .val (.int (p + 1)), .val (.int 1)] := by
  rw [lvS_mx]
  simp [forL, gT, gC, gN, tup?, run_setS, h5.io, h6.io, drop_step hd]
theorem drop_body {d : Sl} {kvs : List (Key × Dv)} {acc : List (Int × Int)} (hd : DInv kvs acc) {xs : List Dv} {s4 s5 s6 : Sl} {p : Int} (h4 : NV s4) (h5 : NV s5) (h6 : NV s6) (hk : kvs.length < sizeLine) (hx : xs.length < sizeLine) :
    L2_drop [d, .mu false (.dct kvs), .mu false (.lst xs), .val (.int p), s4, s5, s6] =
      .ok .nx [d, .mu false (.dct (putD kvs (.inl p) (.int (lvS acc p)))), .mu false (.lst (xs ++ [.int (lvS acc p)])), .val (.int p), .val (.int (lvS acc p)), .val (.int (p + 1)), .val (.int 1)] := by
  have q3 : 3 ≤ sizeLine := by decide
  have q2 : 2 ≤ sizeLine := by decide
  have di := drop_inner (d := d) hd (r := .mu false (.lst xs)) (pl := .val (.int p)) (p := p) h5 h6
  simp [L2_drop, sSeq, sIf, sSet, sRet, sRetN, sExpr, sNil, sFor, sAsg, sSetIx, sPut, sAug, putV, eV, eC, sub, fz, b2, b1, e3, con, ali, toB, eT, tru, tNt, tAn, tO, eAn, eO, eNt, eIf, aC, aN, conL, aliL, eLst, eTup, eDct, oO, oI, eSl, pSl, eB, qLen, qAbs, qInt, qList, qTuple, pAdd, pSub, pMul, pDiv, pMod, pPow, pOrd, pEq, pNe, pEqB, pNeg, pIsN, pIn, pIx, pDx, items?, int?, lst?, dct?, tup?, key?, getMu, putMu, getL, getD', mApp, mPop, mPopAt, mGet2, mIndex, gN, gC, gT, iSeq, walk?, run_range1, run_range2, iEnum1, iZip2, eCall, eCallI, kCall, kCallI, M.thr, run_setS, run_setF, run_setO, h4.io, q2, q3, di, hk, hx]
theorem drop_loop {d : Sl} (ps : List Int) : ∀ (acc : List (Int × Int)) (kvs : List (Key × Dv)) (s3 s4 s5 s6 : Sl), NV s3 → NV s4 → NV s5 → NV s6 → DInv kvs acc → kvs.length ≤ acc.length → acc.length + ps.length ≤ 100 →
    ∃ kvs' s3' s4' s5' s6', forL (setS 3) L2_drop (iz ps) [d, .mu false (.dct kvs), .mu false (.lst (iz (acc.map (·.2)))), s3, s4, s5, s6] =
      .ok .nx [d, .mu false (.dct kvs'), .mu false (.lst (iz ((lvG acc ps).map (·.2)))), s3', s4', s5', s6'] := by
  induction ps with
  | nil => exact fun acc kvs s3 s4 s5 s6 _ _ _ _ _ _ _ => ⟨kvs, s3, s4, s5, s6, rfl⟩
  | cons p ps ih =>
    intro acc kvs s3 s4 s5 s6 h3 h4 h5 h6 hd hk hl
    rw [List.length_cons] at hl
    have hb := drop_body (d := d) hd (xs := iz (acc.map (·.2))) (p := p) h4 h5 h6 (Nat.lt_of_le_of_lt (show kvs.length ≤ 100 by omega) (by decide)) (Nat.lt_of_le_of_lt (show _ ≤ 100 by simp; omega) (by decide))
    obtain ⟨kvs', a3, a4, a5, a6, ih⟩ := ih (acc ++ [(p, lvS acc p)]) (putD kvs (.inl p) (.int (lvS acc p))) (.val (.int p)) (.val (.int (lvS acc p))) (.val (.int (p + 1))) (.val (.int 1)) (.val _) (.val _) (.val _) (.val _)
      (fun k => by
        rw [valD_put, hiM_next]
        by_cases h : p = k
        · subst h; simp
        · have : ¬ ((.inl p : Key) = .inl k) := fun z => h (by cases z; rfl)
          simp only [this, h, if_false]
          exact hd k)
      (by have := putD_len (kvs := kvs) (k := .inl p) (v := Dv.int (lvS acc p)); simp; omega) (by simp; omega)
    refine ⟨kvs', a3, a4, a5, a6, ?_⟩
    simp only [iz_cons, forL, run_bind]
    rw [run_setS (by simp) (by simp [h3.io])]
    simp only [List.set_cons_succ, List.set_cons_zero]
    rw [hb, lvG]
    simpa using ih
theorem run_drop {d : Dv} {ps : List Int} (h : Seqd d ps) (hl : ps.length ≤ 100) : ∃ ρ, m_drop [.val d] = .ok (.fr (.lst (iz ((lvG [] ps).map (·.2))))) ρ := by
  obtain ⟨kvs', s3, s4, s5, s6, e⟩ := drop_loop (d := .val d) ps [] [] .no .no .no .no .no .no .no .no (fun k => rfl) (by simp) (by simpa using hl)
  have e' : forL (setS 3) L2_drop (iz ps) [.val d, .mu false (.dct []), .mu false (.lst []), .no, .no, .no, .no] = _ := e
  simp [m_drop, runB, b_drop, sSeq, sIf, sSet, sRet, sRetN, sExpr, sNil, sFor, sAsg, sSetIx, sPut, sAug, putV, eV, eC, sub, fz, b2, b1, e3, con, ali, toB, eT, tru, tNt, tAn, tO, eAn, eO, eNt, eIf, aC, aN, conL, aliL, eLst, eTup, eDct, oO, oI, eSl, pSl, eB, qAbs, qInt, qList, qTuple, pAdd, pSub, pMul, pDiv, pMod, pPow, pOrd, pEq, pNe, pEqB, pNeg, pIsN, pIn, pDx, int?, lst?, dct?, tup?, key?, getMu, putMu, getL, getD', mApp, mPop, mPopAt, mGet2, mIndex, gN, gC, gT, iSeq, run_range1, run_range2, iEnum1, iZip2, eCall, eCallI, kCall, kCallI, M.thr, run_setS, run_setF, run_setO, h.walk, e']
/-! _law_levels -/
theorem lv_step {d : Dv} {k pj pk fj high : Int} {s5 : Sl} {xs : List Dv} {j : Int} (h5 : NV s5) (e1 : ∀ ρ, pIx d (.int j) ρ = .ok (.d (.int pj)) ρ) (e2 : ∀ ρ, pIx d (.int k) ρ = .ok (.d (.int pk)) ρ) (e3 : ∀ ρ, pIx (.lst xs) (.int j) ρ = .ok (.d (.int fj)) ρ) :
    L1__law_levels [.val d, .mu false (.lst xs), .val (.int k), .val (.int high), .val (.int j), s5] =
      .ok .nx [.val d, .mu false (.lst xs), .val (.int k), .val (.int (if near pj pk = true then max high (fj + 2 - (if pj - pk < 0 then -(pj - pk) else pj - pk)) else high)), .val (.int j), .val (.int (if pj - pk < 0 then -(pj - pk) else pj - pk))] := by
  have nb := near_abs pj pk
  cases hn : near pj pk with
  | false =>
    rw [hn] at nb
    have nb := of_decide_eq_false nb
    simp [L1__law_levels, sSeq, sIf, sSet, sRet, sRetN, sExpr, sNil, sFor, sAsg, sSetIx, sPut, sAug, putV, eV, eC, sub, fz, b2, b1, e3, con, ali, toB, eT, tru, tNt, tAn, tO, eAn, eO, eNt, eIf, aC, aN, conL, aliL, eLst, eTup, eDct, oO, oI, eSl, pSl, eB, qAbs, qInt, qList, qTuple, pAdd, pSub, pMul, pDiv, pMod, pPow, pOrd, pEq, pNe, pEqB, pNeg, pIsN, pIn, pDx, int?, lst?, dct?, tup?, key?, getMu, putMu, getL, getD', mApp, mPop, mPopAt, mGet2, mIndex, gN, gC, gT, iSeq, run_range1, run_range2, iEnum1, iZip2, eCall, eCallI, kCall, kCallI, M.thr, run_setS, run_setF, run_setO, h5.io, e1, e2, e3, nb]
  | true =>
    rw [hn] at nb
    have nb := of_decide_eq_true nb
    have em : qMax [.int high, .int (fj + 2 - (if pj - pk < 0 then -(pj - pk) else pj - pk))] = pure (.d (.int (max high (fj + 2 - (if pj - pk < 0 then -(pj - pk) else pj - pk))))) := by
      show pure (RV.d (.int (if _ > high then _ else high))) = _
      congr 3
      rw [Int.max_def]; split <;> split <;> omega
    simp [L1__law_levels, sSeq, sIf, sSet, sRet, sRetN, sExpr, sNil, sFor, sAsg, sSetIx, sPut, sAug, putV, eV, eC, sub, fz, b2, b1, e3, con, ali, toB, eT, tru, tNt, tAn, tO, eAn, eO, eNt, eIf, aC, aN, conL, aliL, eLst, eTup, eDct, oO, oI, eSl, pSl, eB, qAbs, qInt, qList, qTuple, pAdd, pSub, pMul, pDiv, pMod, pPow, pOrd, pEq, pNe, pEqB, pNeg, pIsN, pIn, pDx, int?, lst?, dct?, tup?, key?, getMu, putMu, getL, getD', mApp, mPop, mPopAt, mGet2, mIndex, gN, gC, gT, iSeq, run_range1, run_range2, iEnum1, iZip2, eCall, eCallI, kCall, kCallI, M.thr, run_setS, run_setF, run_setO, h5.io, e1, e2, e3, nb, em]
end K42
end
section
set_option Elab.async false
set_option linter.all false
set_option maxRecDepth 100000
set_option maxHeartbeats 4000000
namespace K42
open PySem L2 P0

def lvF (p : Int) (h : Int) (q : Int × Int) : Int := if near q.1 p = true then max h (q.2 + 2 - (if q.1 - p < 0 then -(q.1 - p) else q.1 - p)) else h
theorem ix_at {d : Dv} {ps : List Int} (h : Seqd d ps) {j : Nat} {x : Int} (hx : ps[j]? = some x) (ρ : VE) : pIx d (.int (j : Int)) ρ = .ok (.d (.int x)) ρ := by
  have hl := lt_of_get hx
  rw [h.ix, atI_iz, atI_at hl]
  rw [List.getElem?_eq_getElem hl] at hx
  rw [Option.some.inj hx]; rfl
theorem lv_inner {d : Dv} {ps : List Int} (h : Seqd d ps) {acc : List (Int × Int)} {p : Int} (hpre : ∀ (j : Nat) (q : Int × Int), acc[j]? = some q → ps[j]? = some q.1) (hp : ps[acc.length]? = some p) (n : Nat) : ∀ (j : Nat) (high : Int) (s4 s5 : Sl), j + n = acc.length → NV s4 → NV s5 →
    ∃ s4' s5', NV s4' ∧ NV s5' ∧ forL (setS 4) L1__law_levels (rng j n) [.val d, .mu false (.lst (iz (acc.map (·.2)))), .val (.int acc.length), .val (.int high), s4, s5] =
      .ok .nx [.val d, .mu false (.lst (iz (acc.map (·.2)))), .val (.int acc.length), .val (.int ((acc.drop j).foldl (lvF p) high)), s4', s5'] := by
  induction n with
  | zero =>
    intro j high s4 s5 hj h4 h5
    rw [List.drop_eq_nil_of_le (by omega)]
    exact ⟨s4, s5, h4, h5, rfl⟩
  | succ n ih =>
    intro j high s4 s5 hj h4 h5
    have hlt : j < acc.length := by omega
    have hq : acc[j]? = some acc[j] := List.getElem?_eq_getElem hlt
    have e1 := ix_at h (hpre j _ hq)
    have e2 := ix_at h hp
    have e3 := ix_at (Seqd.lst (acc.map (·.2))) (j := j) (x := acc[j].2) (by rw [List.getElem?_map, hq]; rfl)
    have st := lv_step (d := d) (k := acc.length) (high := high) (s5 := s5) (j := j) h5 e1 e2 e3
    obtain ⟨s4', s5', n4, n5, ih⟩ := ih (j + 1) (lvF p high acc[j]) (.val (.int j)) (.val (.int (if acc[j].1 - p < 0 then -(acc[j].1 - p) else acc[j].1 - p))) (by omega) (.val _) (.val _)
    refine ⟨s4', s5', n4, n5, ?_⟩
    rw [rng_succ]
    simp only [forL, run_bind]
    rw [run_setS (by simp) (by simp [h4.io])]
    simp only [List.set_cons_succ, List.set_cons_zero]
    rw [st, List.drop_eq_getElem_cons hlt, List.foldl_cons]
    exact_mod_cast ih
theorem lv_body0 {d : Sl} {xs : List Dv} {k high : Int} {s3 s4 s5 s4' s5' : Sl} (h3 : NV s3) (hx : xs.length < sizeLine) (g1 : ∀ ρ, rg1 (some [k]) ρ = .ok (rng 0 k.toNat) ρ)
    (hin : forL (setS 4) L1__law_levels (rng 0 k.toNat) [d, .mu false (.lst xs), .val (.int k), .val (.int 0), s4, s5] = .ok .nx [d, .mu false (.lst xs), .val (.int k), .val (.int high), s4', s5']) :
    L2__law_levels [d, .mu false (.lst xs), .val (.int k), s3, s4, s5] = .ok .nx [d, .mu false (.lst (xs ++ [.int high])), .val (.int k), .val (.int high), s4', s5'] := by
  simp [L2__law_levels, sSeq, sIf, sSet, sRet, sRetN, sExpr, sNil, sFor, sAsg, sSetIx, sPut, sAug, putV, eV, eC, sub, fz, b2, b1, e3, con, ali, toB, eT, tru, tNt, tAn, tO, eAn, eO, eNt, eIf, aC, aN, conL, aliL, eLst, eTup, eDct, oO, oI, eSl, pSl, eB, qLen, qAbs, qInt, qList, qTuple, pAdd, pSub, pMul, pDiv, pMod, pPow, pOrd, pEq, pNe, pEqB, pNeg, pIsN, pIn, pIx, pDx, items?, int?, lst?, dct?, tup?, key?, getMu, putMu, getL, getD', mApp, mPop, mPopAt, mGet2, mIndex, gN, gC, gT, iSeq, walk?, run_range1, run_range2, iEnum1, iZip2, eCall, eCallI, kCall, kCallI, M.thr, run_setS, run_setF, run_setO, h3.io, ints?, g1, hin, hx]
theorem lv_outer {d : Dv} {ps : List Int} (h : Seqd d ps) (hps : ps.length ≤ 100) (qs : List Int) : ∀ (acc : List (Int × Int)) (s2 s3 s4 s5 : Sl), acc.map (·.1) ++ qs = ps → NV s2 → NV s3 → NV s4 → NV s5 →
    ∃ s2' s3' s4' s5', forL (setS 2) L2__law_levels (rng acc.length qs.length) [.val d, .mu false (.lst (iz (acc.map (·.2)))), s2, s3, s4, s5] =
      .ok .nx [.val d, .mu false (.lst (iz ((lvG acc qs).map (·.2)))), s2', s3', s4', s5'] := by
  induction qs with
  | nil => exact fun acc s2 s3 s4 s5 _ _ _ _ _ => ⟨s2, s3, s4, s5, rfl⟩
  | cons p qs ih =>
    intro acc s2 s3 s4 s5 he h2 h3 h4 h5
    have hl : acc.length + (qs.length + 1) = ps.length := by rw [← he]; simp
    have hp : ps[acc.length]? = some p := by rw [← he]; rw [List.getElem?_append_right (by simp)]; simp
    have hpre : ∀ (j : Nat) (q : Int × Int), acc[j]? = some q → ps[j]? = some q.1 := fun j q hj => by
      have := lt_of_get hj
      rw [← he, List.getElem?_append_left (by simpa using this), List.getElem?_map, hj]; rfl
    obtain ⟨s4', s5', n4, n5, hin⟩ := lv_inner h hpre hp acc.length 0 0 s4 s5 (by omega) h4 h5
    have g1 := rg1_ok (j := acc.length) (r62n (by omega))
    have body := lv_body0 (d := .val d) (xs := iz (acc.map fun q : Int × Int => q.2)) (k := acc.length) (high := lvS acc p) (s4 := s4) (s5 := s5) (s4' := s4') (s5' := s5') h3 (Nat.lt_of_le_of_lt (show _ ≤ 100 by simp; omega) (by decide)) g1 hin
    obtain ⟨a2, a3, a4, a5, ih⟩ := ih (acc ++ [(p, lvS acc p)]) (.val (.int acc.length)) (.val (.int (lvS acc p))) s4' s5' (by simp [← he]) (.val _) (.val _) n4 n5
    refine ⟨a2, a3, a4, a5, ?_⟩
    rw [List.length_cons, rng_succ]
    simp only [forL, run_bind]
    rw [run_setS (by simp) (by simp [h2.io])]
    simp only [List.set_cons_succ, List.set_cons_zero]
    rw [body, lvG]
    have e : ((acc.length : Int) + 1) = ((acc ++ [(p, lvS acc p)]).length : Nat) := by simp
    rw [e]
    simpa using ih
theorem lv_top {d : Dv} {n : Int} {m : Nat} {xs : List Dv} {s2 s3 s4 s5 : Sl} (e0 : ∀ ρ, qLen [d] ρ = .ok (.d (.int n)) ρ) (g1 : ∀ ρ, rg2 (some [1, n]) ρ = .ok (rng 1 m) ρ) (hf : forL (setS 2) L2__law_levels (rng 1 m) [.val d, .mu false (.lst [.int 0]), .no, .no, .no, .no] = .ok .nx [.val d, .mu false (.lst xs), s2, s3, s4, s5]) :
    ∃ ρ, m__law_levels [.val d] = .ok (.fr (.lst xs)) ρ := by
  have q1 : 1 ≤ sizeLine := by decide
  simp [m__law_levels, runB, b__law_levels, sSeq, sIf, sSet, sRet, sRetN, sExpr, sNil, sFor, sAsg, sSetIx, sPut, sAug, putV, eV, eC, sub, fz, b2, b1, e3, con, ali, toB, eT, tru, tNt, tAn, tO, eAn, eO, eNt, eIf, aC, aN, conL, aliL, eLst, eTup, eDct, oO, oI, eSl, pSl, eB, qAbs, qInt, qList, qTuple, pAdd, pSub, pMul, pDiv, pMod, pPow, pOrd, pEq, pNe, pEqB, pNeg, pIsN, pIn, pDx, int?, lst?, dct?, tup?, key?, getMu, putMu, getL, getD', mApp, mPop, mPopAt, mGet2, mIndex, gN, gC, gT, iSeq, run_range1, run_range2, iEnum1, iZip2, eCall, eCallI, kCall, kCallI, M.thr, run_setS, run_setF, run_setO, e0, ints?, g1, hf, q1]
theorem run__law_levels {d : Dv} {ps : List Int} (h : Seqd d ps) (hne : ps ≠ []) (hps : ps.length ≤ 100) : ∃ ρ, m__law_levels [.val d] = .ok (.fr (.lst (iz ((lvG [] ps).map (·.2))))) ρ := by
  obtain ⟨p, qs, rfl⟩ := List.exists_cons_of_ne_nil hne
  obtain ⟨s2, s3, s4, s5, e⟩ := lv_outer h hps qs [(p, 0)] .no .no .no .no rfl .no .no .no .no
  have g1 := rg2_ok (i := 1) (j := (p :: qs).length) (r62 (by omega) (by omega)) (r62n (by omega))
  have n1 : (((p :: qs).length : Int) - 1).toNat = qs.length := by simp
  rw [n1] at g1
  exact lv_top h.len g1 e
end K42
end
section
set_option Elab.async false
set_option linter.all false
set_option maxRecDepth 100000
set_option maxHeartbeats 4000000
namespace K42
open PySem L2 P0

theorem forL_nx {mg : Dv → M Unit} {mb : M Fl} {d : Dv} {ds : List Dv} {ρ ρ1 ρ2 : VE} (h : mg d ρ = .ok () ρ1) (b : mb ρ1 = .ok .nx ρ2) : forL mg mb (d :: ds) ρ = forL mg mb ds ρ2 := by
  rw [forL, run_bind, h]
  show (mb >>= _) ρ1 = _
  rw [run_bind, b]
theorem forL_rt {mg : Dv → M Unit} {mb : M Fl} {d : Dv} {ds : List Dv} {ρ ρ1 ρ2 : VE} {r : RV} (h : mg d ρ = .ok () ρ1) (b : mb ρ1 = .ok (.rt r) ρ2) : forL mg mb (d :: ds) ρ = .ok (.rt r) ρ2 := by
  rw [forL, run_bind, h]
  show (mb >>= _) ρ1 = _
  rw [run_bind, b]; rfl
theorem forL_exc {mg : Dv → M Unit} {mb : M Fl} {d : Dv} {ds : List Dv} {ρ ρ1 ρ2 : VE} {er : Er} (h : mg d ρ = .ok () ρ1) (b : mb ρ1 = .exc er ρ2) : forL mg mb (d :: ds) ρ = .exc er ρ2 := by
  rw [forL, run_bind, h]
  show (mb >>= _) ρ1 = _
  rw [run_bind, b]
def bareS (acc : List Int) (p : Int) : Bool := acc.foldl (fun b q => if q = p then true else if q = p - 1 ∨ q = p + 1 then false else b) false
def strictG : List Int → List Int → Bool
  | _, [] => true
  | acc, p :: ps => !bareS acc p && strictG (acc ++ [p]) ps
theorem bareS_snoc (acc : List Int) (q p : Int) : bareS (acc ++ [q]) p = if q = p then true else if q = p - 1 ∨ q = p + 1 then false else bareS acc p := by
  unfold bareS; rw [List.foldl_append]; rfl
def BInv (kvs : List (Key × Dv)) (acc : List Int) : Prop := ∀ k : Int, (valD kvs (.inl k : Key)).getD (.bl false) = .bl (bareS acc k)
theorem inl_eq (a b : Int) : ((.inl a : Key) = .inl b) = (a = b) := by simp
theorem is_body {d : Sl} {kvs : List (Key × Dv)} {acc : List Int} {p : Int} (hb : BInv kvs acc) (hk : kvs.length + 3 < sizeLine) :
    L1_is_strict [d, .mu false (.dct kvs), .val (.int p)] = if bareS acc p = true then .ok (.rt (.d (.bl false))) [d, .mu false (.dct kvs), .val (.int p)] else
      .ok .nx [d, .mu false (.dct (putD (putD (putD kvs (.inl p) (.bl true)) (.inl (p - 1)) (.bl false)) (.inl (p + 1)) (.bl false))), .val (.int p)] := by
  have h1 := putD_len (kvs := kvs) (k := .inl p) (v := Dv.bl true)
  have h2 := putD_len (kvs := putD kvs (.inl p) (Dv.bl true)) (k := .inl (p - 1)) (v := Dv.bl false)
  have q1 : kvs.length < sizeLine := by omega
  have q2 : (putD kvs (.inl p) (Dv.bl true)).length < sizeLine := by omega
  have q3 : (putD (putD kvs (.inl p) (Dv.bl true)) (.inl (p - 1)) (Dv.bl false)).length < sizeLine := by omega
  have hp := hb p
  cases hq : bareS acc p with
  | true =>
    rw [hq] at hp
    simp [L1_is_strict, sSeq, sIf, sSet, sRet, sRetN, sExpr, sNil, sFor, sAsg, sSetIx, sPut, sAug, putV, eV, eC, sub, fz, b2, b1, e3, con, ali, toB, eT, tru, tNt, tAn, tO, eAn, eO, eNt, eIf, aC, aN, conL, aliL, eLst, eTup, eDct, oO, oI, eSl, pSl, eB, qLen, qAbs, qInt, qList, qTuple, pAdd, pSub, pMul, pDiv, pMod, pPow, pOrd, pEq, pNe, pEqB, pNeg, pIsN, pIn, pIx, pDx, items?, int?, lst?, dct?, tup?, key?, getMu, putMu, getL, getD', mApp, mPop, mPopAt, mGet2, mIndex, gN, gC, gT, iSeq, walk?, run_range1, run_range2, iEnum1, iZip2, eCall, eCallI, kCall, kCallI, M.thr, run_setS, run_setF, run_setO, hp]
  | false =>
    rw [hq] at hp
    simp [L1_is_strict, sSeq, sIf, sSet, sRet, sRetN, sExpr, sNil, sFor, sAsg, sSetIx, sPut, sAug, putV, eV, eC, sub, fz, b2, b1, e3, con, ali, toB, eT, tru, tNt, tAn, tO, eAn, eO, eNt, eIf, aC, aN, conL, aliL, eLst, eTup, eDct, oO, oI, eSl, pSl, eB, qLen, qAbs, qInt, qList, qTuple, pAdd, pSub, pMul, pDiv, pMod, pPow, pOrd, pEq, pNe, pEqB, pNeg, pIsN, pIn, pIx, pDx, items?, int?, lst?, dct?, tup?, key?, getMu, putMu, getL, getD', mApp, mPop, mPopAt, mGet2, mIndex, gN, gC, gT, iSeq, walk?, run_range1, run_range2, iEnum1, iZip2, eCall, eCallI, kCall, kCallI, M.thr, run_setS, run_setF, run_setO, hp, q1, q2, q3]
theorem BInv.next {kvs : List (Key × Dv)} {acc : List Int} {p : Int} (hb : BInv kvs acc) : BInv (putD (putD (putD kvs (.inl p) (.bl true)) (.inl (p - 1)) (.bl false)) (.inl (p + 1)) (.bl false)) (acc ++ [p]) := fun k => by
  rw [valD_put, valD_put, valD_put, bareS_snoc]
  simp only [inl_eq]
  have h := hb k
  by_cases h1 : p + 1 = k
  · have a : ¬ p = k := by omega
    have b : p = k - 1 ∨ p = k + 1 := by omega
    simp [h1, a, b]
  · by_cases h2 : p - 1 = k
    · have a : ¬ p = k := by omega
      have b : p = k - 1 ∨ p = k + 1 := by omega
      simp [h1, h2, a, b]
    · by_cases h3 : p = k
      · have c1 : ¬ k + 1 = k := by omega
        have c2 : ¬ k - 1 = k := by omega
        simp [h3, c1, c2]
      · have b : ¬ (p = k - 1 ∨ p = k + 1) := by omega
        simp [h1, h2, h3, b]
        simpa using h
theorem is_loop {d : Dv} (ps : List Int) : ∀ (acc : List Int) (kvs : List (Key × Dv)) (s2 : Sl), NV s2 → BInv kvs acc → kvs.length ≤ 3 * acc.length → acc.length + ps.length ≤ 100 →
    match strictG acc ps with
    | true => ∃ a b, forL (setS 2) L1_is_strict (iz ps) [.val d, .mu false (.dct kvs), s2] = .ok .nx [.val d, a, b]
    | false => ∃ ρ, forL (setS 2) L1_is_strict (iz ps) [.val d, .mu false (.dct kvs), s2] = .ok (.rt (.d (.bl false))) ρ := by
  induction ps with
  | nil => exact fun acc kvs s2 _ _ _ _ => ⟨_, _, rfl⟩
  | cons p ps ih =>
    intro acc kvs s2 h2 hb hk hl
    rw [List.length_cons] at hl
    have bd := is_body (d := .val d) (p := p) hb (Nat.lt_of_le_of_lt (show _ ≤ 400 by omega) (by decide))
    have sg : setS 2 (.int p) [.val d, .mu false (.dct kvs), s2] = .ok () [.val d, .mu false (.dct kvs), .val (.int p)] := by
      rw [run_setS (by simp) (by simp [h2.io])]; rfl
    rw [strictG]
    cases hq : bareS acc p with
    | true =>
      rw [hq] at bd
      exact ⟨_, forL_rt sg bd⟩
    | false =>
      rw [hq] at bd
      have bd : L1_is_strict [.val d, .mu false (.dct kvs), .val (.int p)] = .ok .nx [.val d, .mu false (.dct (putD (putD (putD kvs (.inl p) (.bl true)) (.inl (p - 1)) (.bl false)) (.inl (p + 1)) (.bl false))), .val (.int p)] := bd
      have l1 := putD_len (kvs := kvs) (k := .inl p) (v := Dv.bl true)
      have l2 := putD_len (kvs := putD kvs (.inl p) (Dv.bl true)) (k := .inl (p - 1)) (v := Dv.bl false)
      have l3 := putD_len (kvs := putD (putD kvs (.inl p) (Dv.bl true)) (.inl (p - 1)) (Dv.bl false)) (k := .inl (p + 1)) (v := Dv.bl false)
      have := ih (acc ++ [p]) _ (.val (.int p)) (.val _) hb.next (by simp; omega) (by simp; omega)
      rw [iz_cons, forL_nx sg bd]
      exact this
theorem run_is_strict {d : Dv} {ps : List Int} (h : Seqd d ps) (h1 : 1 ≤ ps.length) (h2 : ps.length ≤ 60) (hw : wrong ps = none) (hb : ∀ p ∈ ps, -60 ≤ p ∧ p ≤ 60) : ∃ ρ, m_is_strict [.val d] = .ok (.d (.bl (strictG [] ps && (astO ps).isNone))) ρ := by
  obtain ⟨ρ1, e1⟩ := run_check_places h h1 h2 hw
  obtain ⟨ρ2, e2⟩ := run_first_astray h h2 (by intro z; subst z; simp at h1) hb
  have l := is_loop (d := d) ps [] [] .no .no (fun k => rfl) (by simp) (by simp; omega)
  have an : pIsN false (astray ps) .non = pure (.d (.bl ((astO ps).isNone))) := by
    unfold astray
    cases astO ps <;> simp [optI, pIsN]
  cases hs : strictG [] ps with
  | true =>
    rw [hs] at l
    obtain ⟨a, b, e3⟩ := l
    simp [m_is_strict, runB, b_is_strict, sSeq, sIf, sSet, sRet, sRetN, sExpr, sNil, sFor, sAsg, sSetIx, sPut, sAug, putV, eV, eC, sub, fz, b2, b1, e3, con, ali, toB, eT, tru, tNt, tAn, tO, eAn, eO, eNt, eIf, aC, aN, conL, aliL, eLst, eTup, eDct, oO, oI, eSl, pSl, eB, qAbs, qInt, qList, qTuple, pAdd, pSub, pMul, pDiv, pMod, pPow, pOrd, pEq, pNe, pEqB, pNeg, pIn, pDx, int?, lst?, dct?, tup?, key?, getMu, putMu, getL, getD', mApp, mPop, mPopAt, mGet2, mIndex, gN, gC, gT, iSeq, run_range1, run_range2, iEnum1, iZip2, eCall, eCallI, kCall, kCallI, M.thr, run_setS, run_setF, run_setO, h.walk, e1, e2, e3, an]
  | false =>
    rw [hs] at l
    obtain ⟨ρ, e3⟩ := l
    simp [m_is_strict, runB, b_is_strict, sSeq, sIf, sSet, sRet, sRetN, sExpr, sNil, sFor, sAsg, sSetIx, sPut, sAug, putV, eV, eC, sub, fz, b2, b1, e3, con, ali, toB, eT, tru, tNt, tAn, tO, eAn, eO, eNt, eIf, aC, aN, conL, aliL, eLst, eTup, eDct, oO, oI, eSl, pSl, eB, qAbs, qInt, qList, qTuple, pAdd, pSub, pMul, pDiv, pMod, pPow, pOrd, pEq, pNe, pEqB, pNeg, pIn, pDx, int?, lst?, dct?, tup?, key?, getMu, putMu, getL, getD', mApp, mPop, mPopAt, mGet2, mIndex, gN, gC, gT, iSeq, run_range1, run_range2, iEnum1, iZip2, eCall, eCallI, kCall, kCallI, M.thr, run_setS, run_setF, run_setO, h.walk, e1, e2, e3]
end K42
end
section
set_option Elab.async false
set_option linter.all false
set_option maxRecDepth 100000
set_option maxHeartbeats 4000000
namespace K42
open PySem L2 P0

/-- a comprehension whose parts change nothing but the block's slots -/
theorem compL_gen {vs : List Nat} {mg : Dv → M Unit} {mt : M Bool} {me : M AV} {ρ0 : VE} (f : Dv → Bool) (e : Dv → Dv) (ρd : Dv → VE) : ∀ (ds acc : List Dv) (ρ : VE), (vs.any fun i => isIo (ρ[i]? : Option Sl)) = false → P0.wipeE ρ vs = ρ0 →
    (∀ d ∈ ds, mg d ρ0 = .ok () (ρd d) ∧ mt (ρd d) = .ok (f d) (ρd d) ∧ (f d = true → me (ρd d) = .ok (.d (e d)) (ρd d)) ∧ P0.wipeE (ρd d) vs = ρ0 ∧ (vs.any fun i => isIo ((ρd d)[i]? : Option Sl)) = false) →
    acc.length + ds.length < sizeLine → compL vs mg mt me ds acc ρ = .ok (acc ++ (ds.filter f).map e) ρ0
  | [], acc, ρ, h1, h2, _, _ => by
    simp [compL, wipeM, h1, h2]
  | d :: ds, acc, ρ, h1, h2, h3, h4 => by
    obtain ⟨a1, a2, a3, a4, a5⟩ := h3 d List.mem_cons_self
    rw [List.length_cons] at h4
    have hl : acc.length < sizeLine := by omega
    have w : wipeM vs ρ = .ok () ρ0 := by unfold wipeM; rw [h1, h2]; rfl
    cases hf : f d with
    | false =>
      have ih := compL_gen f e ρd ds acc (ρd d) a5 a4 (fun x hx => h3 x (List.mem_cons_of_mem _ hx)) (by omega)
      rw [hf] at a2
      rw [compL, run_bind, w]
      show (mg d >>= _) ρ0 = _
      rw [run_bind, a1]
      show (mt >>= _) (ρd d) = _
      rw [run_bind, a2]
      rw [List.filter_cons_of_neg (by rw [hf]; exact Bool.false_ne_true)]
      exact ih
    | true =>
      have ih := compL_gen f e ρd ds (acc ++ [e d]) (ρd d) a5 a4 (fun x hx => h3 x (List.mem_cons_of_mem _ hx)) (by simp; omega)
      rw [hf] at a2
      rw [compL, run_bind, w]
      show (mg d >>= _) ρ0 = _
      rw [run_bind, a1]
      show (mt >>= _) (ρd d) = _
      rw [run_bind, a2]
      show (me >>= _) (ρd d) = _
      rw [run_bind, a3 hf]
      show (M.grd (acc.length < sizeLine) >>= fun _ => compL vs mg mt me ds (acc ++ [e d])) (ρd d) = _
      rw [run_bind, run_grd, if_pos hl]
      rw [List.filter_cons_of_pos hf, List.map_cons]
      show compL vs mg mt me ds (acc ++ [e d]) (ρd d) = _
      rw [ih, List.append_assoc]; rfl
/-! ### _law_strict -/
def lastIx (acc : List Int) (p : Int) : List Nat := (List.range acc.length).filter fun j => decide (acc[j]? = some p)
def lawB (acc : List Int) (p : Int) : Bool := match (lastIx acc p).getLast? with
  | none => false
  | some j => !((acc.drop (j + 1)).contains (p - 1)) && !((acc.drop (j + 1)).contains (p + 1))
theorem lastIx_snoc (acc : List Int) (q p : Int) : lastIx (acc ++ [q]) p = lastIx acc p ++ if q = p then [acc.length] else [] := by
  unfold lastIx
  rw [List.length_append, List.length_singleton, List.range_succ, List.filter_append]
  congr 1
  · apply List.filter_congr
    intro j hj
    rw [List.getElem?_append_left (List.mem_range.mp hj)]
  · rw [List.filter_cons, List.filter_nil]
    simp
theorem lastIx_lt {acc : List Int} {p : Int} {j : Nat} (h : j ∈ lastIx acc p) : j < acc.length := List.mem_range.mp (List.mem_filter.mp h).1
theorem contains_app (l : List Int) (q x : Int) : (l ++ [q]).contains x = (l.contains x || decide (q = x)) := by
  rw [List.contains_append]
  congr 1
  simp [List.contains_cons]
  by_cases h : x = q
  · simp [h]
  · have : ¬ q = x := fun z => h z.symm
    simp [h, this]
theorem lawB_snoc (acc : List Int) (q p : Int) : lawB (acc ++ [q]) p = if q = p then true else if q = p - 1 ∨ q = p + 1 then false else lawB acc p := by
  unfold lawB
  rw [lastIx_snoc]
  by_cases h : q = p
  · rw [if_pos h, if_pos h, List.getLast?_append]
    simp
  · rw [if_neg h, if_neg h, List.append_nil]
    cases e : (lastIx acc p).getLast? with
    | none => simp
    | some j =>
      have hj := lastIx_lt (List.mem_of_getLast? e)
      have ed : (acc ++ [q]).drop (j + 1) = acc.drop (j + 1) ++ [q] := List.drop_append_of_le_length (by omega)
      simp only [ed, contains_app]
      by_cases h1 : q = p - 1
      · simp [h1]
      · by_cases h2 : q = p + 1
        · simp [h2]
        · simp [h1, h2]
theorem lawB_eq (p : Int) : ∀ (qs acc : List Int), lawB acc p = bareS acc p → lawB (acc ++ qs) p = bareS (acc ++ qs) p
  | [], acc, h => by rw [List.append_nil]; exact h
  | q :: qs, acc, h => by
    rw [show acc ++ q :: qs = (acc ++ [q]) ++ qs by simp]
    exact lawB_eq p qs (acc ++ [q]) (by rw [lawB_snoc, bareS_snoc, h])
theorem lawB_is (acc : List Int) (p : Int) : lawB acc p = bareS acc p := lawB_eq p acc [] rfl
theorem iz_flat (l : List Int) : (iz l).all flatD = true := by
  rw [List.all_eq_true]
  intro x hx
  obtain ⟨a, _, rfl⟩ := List.mem_map.mp hx
  rfl
theorem iz_any (l : List Int) (x : Int) : ((iz l).any fun d => eqD d (.int x)) = l.contains x := by
  unfold iz
  rw [List.any_map, List.contains_eq_any_beq]
  congr 1
  funext a
  show (a == x) = (x == a)
  rw [Bool.beq_comm]
theorem pIn_iz (n : Bool) (l : List Int) (x : Int) (ρ : VE) : pIn n (.int x) (.lst (iz l)) ρ = .ok (.d (.bl (if n then !(l.contains x) else l.contains x))) ρ := by
  simp [pIn, pInB, items?, iz_flat, flatD]
  rw [iz_any]
  cases n <;> simp
theorem cut_iz (l : List Int) (a b : Nat) (ha : a ≤ l.length) (hb : b ≤ l.length) : cut (iz l) (some (a : Int)) (some (b : Int)) = iz ((l.take b).drop a) := by
  unfold cut
  rw [HT.sIx_nat, HT.sIx_nat, iz_length, Nat.min_eq_left ha, Nat.min_eq_left hb]
  unfold iz
  rw [← List.map_drop, ← List.map_take, List.drop_take]
theorem ls_comp {d : Dv} {k : Int} {js : List Nat} {s2 s3 s4 : Sl} (h4 : NV s4) (hr : ∀ ρ, rg1 (some [k]) ρ = .ok (iz (js.map fun j : Nat => (j : Int))) ρ) (f : Nat → Bool) (hl : js.length < sizeLine)
    (ht : ∀ j ∈ js, ∀ s2 s3, T1__law_strict [.val d, .val (.int k), s2, s3, .val (.int (j : Int))] = .ok (f j) [.val d, .val (.int k), s2, s3, .val (.int (j : Int))]) :
    eComp [4] (iRange1 (aC (sub (eV 1)) aN)) (setS 4) T1__law_strict E1__law_strict [.val d, .val (.int k), s2, s3, s4] = .ok (.fr (.lst (iz ((js.filter f).map fun j : Nat => (j : Int))))) [.val d, .val (.int k), s2, s3, .no] := by
  have c := compL_gen (vs := [4]) (mg := setS 4) (mt := T1__law_strict) (me := E1__law_strict) (ρ0 := [.val d, .val (.int k), s2, s3, .no]) (fun x => match x with | .int j => f j.toNat | _ => false) (fun x => x) (fun x => [.val d, .val (.int k), s2, s3, .val x])
    (iz (js.map fun j : Nat => (j : Int))) [] [.val d, .val (.int k), s2, s3, s4] (by simp [h4.io]) rfl (fun x hx => by
      obtain ⟨a, ha, rfl⟩ := List.mem_map.mp hx
      obtain ⟨j, hj, rfl⟩ := List.mem_map.mp ha
      refine ⟨rfl, ?_, fun _ => ?_, rfl, rfl⟩
      · rw [ht j hj]; simp
      · simp [E1__law_strict, sub, eV, fz]) (by simpa using hl)
  unfold eComp
  rw [run_bind, run_range1]
  simp only [aC, aN, sub, eV, fz, conL, con, run_bind, run_pure, List.getElem?_cons_succ, List.getElem?_cons_zero, ints?, Option.map, hr]
  unfold noX
  rw [c]
  simp only [run_pure, List.nil_append, List.map_id']
  congr 3
  unfold iz
  rw [List.filter_map, List.filter_map]
  rfl
theorem atI_last (l : List Int) (x : Int) (h : l.getLast? = some x) : atI (iz l) (-1) = some (.int x) := by
  have hne : l ≠ [] := by intro z; subst z; cases h
  have hl : 0 < l.length := List.length_pos_iff.mpr hne
  rw [atI_iz]
  unfold atI ixN
  rw [if_neg (by omega), if_pos (by omega)]
  rw [List.getLast?_eq_getElem?] at h
  have : ((-1 : Int) + (l.length : Int)).toNat = l.length - 1 := by omega
  simp only [Option.bind_some, this, h, Option.map_some]
theorem seq_nx {m n : M Fl} {ρ ρ' : VE} (h : m ρ = .ok .nx ρ') : sSeq m n ρ = n ρ' := by
  unfold sSeq
  rw [run_bind, h]
theorem seq_rt {m n : M Fl} {ρ ρ' : VE} {r : RV} (h : m ρ = .ok (.rt r) ρ') : sSeq m n ρ = .ok (.rt r) ρ' := by
  unfold sSeq
  rw [run_bind, h]; rfl
theorem seq_exc {m n : M Fl} {ρ ρ' : VE} {e : Er} (h : m ρ = .exc e ρ') : sSeq m n ρ = .exc e ρ' := by
  unfold sSeq
  rw [run_bind, h]
theorem set_fr {m : M RV} {i : Nat} {ρ ρ' : VE} {d : Dv} (h : m ρ = .ok (.fr d) ρ') (hi : i < ρ'.length) (hn : isIo (ρ'[i]? : Option Sl) = false) : sSet i m ρ = .ok .nx (ρ'.set i (.mu false d)) := by
  unfold sSet
  rw [run_bind, h]
  have e : putV i (.fr d) ρ' = setF i d ρ' := rfl
  rw [run_setF hi hn] at e
  show (putV i (.fr d) >>= _) ρ' = _
  rw [run_bind, e]
  rfl
theorem set_d {m : M RV} {i : Nat} {ρ ρ' : VE} {d : Dv} (h : m ρ = .ok (.d d) ρ') (hi : i < ρ'.length) (hn : isIo (ρ'[i]? : Option Sl) = false) : sSet i m ρ = .ok .nx (ρ'.set i (.val d)) := by
  unfold sSet
  rw [run_bind, h]
  have e : putV i (.d d) ρ' = setS i d ρ' := rfl
  rw [run_setS hi hn] at e
  show (putV i (.d d) >>= _) ρ' = _
  rw [run_bind, e]
  rfl
theorem set_ow {m : M RV} {i : Nat} {ρ ρ' : VE} {d : Ot} (h : m ρ = .ok (.ow d) ρ') (hi : i < ρ'.length) (hn : isIo (ρ'[i]? : Option Sl) = false) : sSet i m ρ = .ok .nx (ρ'.set i (.ot d)) := by
  unfold sSet
  rw [run_bind, h]
  have e : putV i (.ow d) ρ' = setO i d ρ' := rfl
  rw [run_setO hi hn] at e
  show (putV i (.ow d) >>= _) ρ' = _
  rw [run_bind, e]
  rfl
theorem ls_body {ps : List Int} {p k : Int} {js : List Int} {s2 s3 s4 : Sl} {bet : List Int} {j : Int} (h3 : isIo (some s3) = false) (h2 : isIo (some s2) = false)
    (hc : eComp [4] (iRange1 (aC (sub (eV 1)) aN)) (setS 4) T1__law_strict E1__law_strict [.val (.lst (iz ps)), .val (.int k), s2, s3, s4] = .ok (.fr (.lst (iz js))) [.val (.lst (iz ps)), .val (.int k), s2, s3, .no])
    (hp : ∀ ρ, pIx (.lst (iz ps)) (.int k) ρ = .ok (.d (.int p)) ρ) (hj : js.getLast? = some j) (hcut : cut (iz ps) (some (j + 1)) (some k) = iz bet) :
    L1__law_strict [.val (.lst (iz ps)), .val (.int k), s2, s3, s4] = if (!(bet.contains (p - 1)) && !(bet.contains (p + 1))) = true then .ok (.rt (.d (.bl false))) [.val (.lst (iz ps)), .val (.int k), .mu false (.lst (iz js)), .mu false (.lst (iz bet)), .no]
      else .ok .nx [.val (.lst (iz ps)), .val (.int k), .mu false (.lst (iz js)), .mu false (.lst (iz bet)), .no] := by
  have hne : js ≠ [] := by intro z; subst z; cases hj
  have e0 : js.isEmpty = false := by cases js with
    | nil => exact absurd rfl hne
    | cons a b => rfl
  have e1 : ∀ ρ, pIx (.lst (iz js)) (.int (-1)) ρ = .ok (.d (.int j)) ρ := fun ρ => by rw [(Seqd.lst js).ix, atI_last js j hj]
  unfold L1__law_strict
  rw [seq_nx (set_fr hc (by simp) (by simpa using h2))]
  by_cases h1 : p - 1 ∈ bet <;> by_cases h2' : p + 1 ∈ bet <;>
    simp [sSeq, sIf, sSet, sRet, sRetN, sExpr, sNil, sFor, sAsg, sSetIx, sPut, sAug, putV, eV, eC, sub, fz, b2, b1, e3, con, ali, toB, eT, tru, tNt, tAn, tO, eAn, eO, eNt, eIf, aC, aN, conL, aliL, eLst, eTup, eDct, oO, oI, eSl, pSl, eB, qAbs, qInt, qList, qTuple, pAdd, pSub, pMul, pDiv, pMod, pPow, pOrd, pEq, pNe, pEqB, pNeg, pIsN, pDx, int?, lst?, dct?, tup?, key?, getMu, putMu, getL, getD', mApp, mPop, mPopAt, mGet2, mIndex, gN, gC, gT, iSeq, run_range1, run_range2, iEnum1, iZip2, eCall, eCallI, kCall, kCallI, M.thr, run_setS, run_setF, run_setO, h3, e0, e1, hp, hcut, pIn_iz, h1, h2']
theorem ls_body0 {ps : List Int} {k : Int} {s2 s3 s4 : Sl} (h2 : isIo (some s2) = false)
    (hc : eComp [4] (iRange1 (aC (sub (eV 1)) aN)) (setS 4) T1__law_strict E1__law_strict [.val (.lst (iz ps)), .val (.int k), s2, s3, s4] = .ok (.fr (.lst (iz []))) [.val (.lst (iz ps)), .val (.int k), s2, s3, .no]) :
    L1__law_strict [.val (.lst (iz ps)), .val (.int k), s2, s3, s4] = .ok .nx [.val (.lst (iz ps)), .val (.int k), .mu false (.lst (iz [])), s3, .no] := by
  unfold L1__law_strict
  rw [seq_nx (set_fr hc (by simp) (by simpa using h2))]
  simp [sSeq, sIf, sSet, sRet, sRetN, sExpr, sNil, sFor, sAsg, sSetIx, sPut, sAug, putV, eV, eC, sub, fz, b2, b1, e3, con, ali, toB, eT, tru, tNt, tAn, tO, eAn, eO, eNt, eIf, aC, aN, conL, aliL, eLst, eTup, eDct, oO, oI, eSl, pSl, eB, qAbs, qInt, qList, qTuple, pAdd, pSub, pMul, pDiv, pMod, pPow, pOrd, pEq, pNe, pEqB, pNeg, pIsN, pDx, int?, lst?, dct?, tup?, key?, getMu, putMu, getL, getD', mApp, mPop, mPopAt, mGet2, mIndex, gN, gC, gT, iSeq, run_range1, run_range2, iEnum1, iZip2, eCall, eCallI, kCall, kCallI, M.thr, run_setS, run_setF, run_setO]
theorem ls_test {ps : List Int} {j k : Int} {x p : Int} (h1 : ∀ ρ, pIx (.lst (iz ps)) (.int j) ρ = .ok (.d (.int x)) ρ) (h2 : ∀ ρ, pIx (.lst (iz ps)) (.int k) ρ = .ok (.d (.int p)) ρ) (s2 s3 : Sl) :
    T1__law_strict [.val (.lst (iz ps)), .val (.int k), s2, s3, .val (.int j)] = .ok (decide (x = p)) [.val (.lst (iz ps)), .val (.int k), s2, s3, .val (.int j)] := by
  simp [T1__law_strict, sSeq, sIf, sSet, sRet, sRetN, sExpr, sNil, sFor, sAsg, sSetIx, sPut, sAug, putV, eV, eC, sub, fz, b2, b1, e3, con, ali, toB, eT, tru, tNt, tAn, tO, eAn, eO, eNt, eIf, aC, aN, conL, aliL, eLst, eTup, eDct, oO, oI, eSl, pSl, eB, qAbs, qInt, qList, qTuple, pAdd, pSub, pMul, pDiv, pMod, pPow, pOrd, pEq, pNe, pEqB, pNeg, pIsN, pIn, pDx, int?, lst?, dct?, tup?, key?, getMu, putMu, getL, getD', mApp, mPop, mPopAt, mGet2, mIndex, gN, gC, gT, iSeq, run_range1, run_range2, iEnum1, iZip2, eCall, eCallI, kCall, kCallI, M.thr, run_setS, run_setF, run_setO, h1, h2]
theorem rg1_nat {n : Nat} (h : n ≤ 1000000) (ρ : VE) : rg1 (some [(n : Int)]) ρ = .ok (iz ((List.range n).map fun j : Nat => (j : Int))) ρ := by
  rw [rg1_ok (r62n h)]
  unfold rng iz
  rw [List.map_map]
  simp [Function.comp_def]
theorem ls_turn {ps acc qs : List Int} {p : Int} (he : acc ++ p :: qs = ps) (hl : ps.length ≤ 1000) {s2 s3 s4 : Sl} (h2 : isIo (some s2) = false) (h3 : isIo (some s3) = false) (h4 : NV s4) :
    ∃ s2' s3', isIo (some s2') = false ∧ isIo (some s3') = false ∧ L1__law_strict [.val (.lst (iz ps)), .val (.int acc.length), s2, s3, s4] = if bareS acc p = true then .ok (.rt (.d (.bl false))) [.val (.lst (iz ps)), .val (.int acc.length), s2', s3', .no]
      else .ok .nx [.val (.lst (iz ps)), .val (.int acc.length), s2', s3', .no] := by
  have hk : acc.length < ps.length := by rw [← he]; simp
  have hp : ∀ ρ, pIx (.lst (iz ps)) (.int (acc.length : Int)) ρ = .ok (.d (.int p)) ρ := ix_at (Seqd.lst ps) (by rw [← he, List.getElem?_append_right (Nat.le_refl _)]; simp)
  have hx : ∀ j, j < acc.length → ps[j]? = acc[j]? := fun j hj => by rw [← he, List.getElem?_append_left hj]
  have hc := ls_comp (d := .lst (iz ps)) (k := acc.length) (js := List.range acc.length) (s2 := s2) (s3 := s3) h4 (fun ρ => rg1_nat (by omega) ρ) (fun j => decide (acc[j]? = some p)) (by rw [List.length_range]; exact Nat.lt_of_lt_of_le (show _ < 1000 by omega) (by decide)) (fun j hj s2 s3 => by
    have hj := List.mem_range.mp hj
    have e : ps[j]? = some acc[j] := by rw [hx j hj]; exact List.getElem?_eq_getElem hj
    rw [ls_test (ix_at (Seqd.lst ps) e) hp s2 s3, List.getElem?_eq_getElem hj]
    simp)
  have hc : eComp [4] (iRange1 (aC (sub (eV 1)) aN)) (setS 4) T1__law_strict E1__law_strict [.val (.lst (iz ps)), .val (.int acc.length), s2, s3, s4] = .ok (.fr (.lst (iz ((lastIx acc p).map fun j : Nat => (j : Int))))) [.val (.lst (iz ps)), .val (.int acc.length), s2, s3, .no] := hc
  rw [← lawB_is]
  unfold lawB
  cases e : (lastIx acc p).getLast? with
  | none =>
    have en : lastIx acc p = [] := List.getLast?_eq_none_iff.mp e
    rw [en] at hc
    exact ⟨_, s3, rfl, h3, ls_body0 h2 hc⟩
  | some j =>
    have hj := lastIx_lt (List.mem_of_getLast? e)
    have hcut : cut (iz ps) (some ((j : Int) + 1)) (some (acc.length : Int)) = iz (acc.drop (j + 1)) := by
      have := cut_iz ps (j + 1) acc.length (by omega) (by omega)
      rw [show (((j + 1 : Nat)) : Int) = (j : Int) + 1 by omega] at this
      rw [this, ← he, List.take_append_of_le_length (Nat.le_refl _), List.take_length]
    exact ⟨_, _, rfl, rfl, ls_body h3 h2 hc hp (by rw [List.getLast?_map, e]; rfl) hcut⟩
theorem ls_loop {ps : List Int} (hl : ps.length ≤ 1000) (qs : List Int) : ∀ (acc : List Int) (s1 s2 s3 s4 : Sl), acc ++ qs = ps → isIo (some s1) = false → isIo (some s2) = false → isIo (some s3) = false → NV s4 →
    match strictG acc qs with
    | true => ∃ ρ, forL (setS 1) L1__law_strict (rng acc.length qs.length) [.val (.lst (iz ps)), s1, s2, s3, s4] = .ok .nx ρ
    | false => ∃ ρ, forL (setS 1) L1__law_strict (rng acc.length qs.length) [.val (.lst (iz ps)), s1, s2, s3, s4] = .ok (.rt (.d (.bl false))) ρ := by
  induction qs with
  | nil => exact fun acc s1 s2 s3 s4 _ _ _ _ _ => ⟨_, rfl⟩
  | cons p qs ih =>
    intro acc s1 s2 s3 s4 he h1 h2 h3 h4
    obtain ⟨s2', s3', n2, n3, tn⟩ := ls_turn he hl h2 h3 h4
    have sg : setS 1 (.int (acc.length : Int)) [.val (.lst (iz ps)), s1, s2, s3, s4] = .ok () [.val (.lst (iz ps)), .val (.int acc.length), s2, s3, s4] := by
      rw [run_setS (by simp) (by simpa using h1)]; rfl
    rw [strictG, List.length_cons, rng_succ]
    cases hq : bareS acc p with
    | true =>
      rw [hq] at tn
      exact ⟨_, forL_rt sg tn⟩
    | false =>
      rw [hq] at tn
      have tn : L1__law_strict [.val (.lst (iz ps)), .val (.int acc.length), s2, s3, s4] = .ok .nx [.val (.lst (iz ps)), .val (.int acc.length), s2', s3', .no] := tn
      have := ih (acc ++ [p]) (.val (.int acc.length)) s2' s3' .no (by simp [← he]) rfl n2 n3 .no
      rw [forL_nx sg tn]
      have e : ((acc.length : Int) + 1) = ((acc ++ [p]).length : Nat) := by simp
      rw [e]
      exact this
theorem ls_top1 {d : Dv} {n : Int} {m : Nat} {ρ : VE} (e0 : ∀ ρ, qLen [d] ρ = .ok (.d (.int n)) ρ) (g1 : ∀ ρ, rg1 (some [n]) ρ = .ok (rng 0 m) ρ) (e : forL (setS 1) L1__law_strict (rng 0 m) [.val d, .no, .no, .no, .no] = .ok .nx ρ) : ∃ ρ, m__law_strict [.val d] = .ok (.d (.bl true)) ρ := by
  simp [m__law_strict, runB, b__law_strict, sSeq, sIf, sSet, sRet, sRetN, sExpr, sNil, sFor, sAsg, sSetIx, sPut, sAug, putV, eV, eC, sub, fz, b2, b1, e3, con, ali, toB, eT, tru, tNt, tAn, tO, eAn, eO, eNt, eIf, aC, aN, conL, aliL, eLst, eTup, eDct, oO, oI, eSl, pSl, eB, qAbs, qInt, qList, qTuple, pAdd, pSub, pMul, pDiv, pMod, pPow, pOrd, pEq, pNe, pEqB, pNeg, pIsN, pIn, pDx, int?, lst?, dct?, tup?, key?, getMu, putMu, getL, getD', mApp, mPop, mPopAt, mGet2, mIndex, gN, gC, gT, iSeq, run_range1, run_range2, iEnum1, iZip2, eCall, eCallI, kCall, kCallI, M.thr, run_setS, run_setF, run_setO, e0, ints?, g1, e]
theorem ls_top2 {d : Dv} {n : Int} {m : Nat} {ρ : VE} (e0 : ∀ ρ, qLen [d] ρ = .ok (.d (.int n)) ρ) (g1 : ∀ ρ, rg1 (some [n]) ρ = .ok (rng 0 m) ρ) (e : forL (setS 1) L1__law_strict (rng 0 m) [.val d, .no, .no, .no, .no] = .ok (.rt (.d (.bl false))) ρ) : ∃ ρ, m__law_strict [.val d] = .ok (.d (.bl false)) ρ := by
  simp [m__law_strict, runB, b__law_strict, sSeq, sIf, sSet, sRet, sRetN, sExpr, sNil, sFor, sAsg, sSetIx, sPut, sAug, putV, eV, eC, sub, fz, b2, b1, e3, con, ali, toB, eT, tru, tNt, tAn, tO, eAn, eO, eNt, eIf, aC, aN, conL, aliL, eLst, eTup, eDct, oO, oI, eSl, pSl, eB, qAbs, qInt, qList, qTuple, pAdd, pSub, pMul, pDiv, pMod, pPow, pOrd, pEq, pNe, pEqB, pNeg, pIsN, pIn, pDx, int?, lst?, dct?, tup?, key?, getMu, putMu, getL, getD', mApp, mPop, mPopAt, mGet2, mIndex, gN, gC, gT, iSeq, run_range1, run_range2, iEnum1, iZip2, eCall, eCallI, kCall, kCallI, M.thr, run_setS, run_setF, run_setO, e0, ints?, g1, e]
theorem run__law_strict {ps : List Int} (hl : ps.length ≤ 1000) : ∃ ρ, m__law_strict [.val (.lst (iz ps))] = .ok (.d (.bl (strictG [] ps))) ρ := by
  have l := ls_loop hl ps [] .no .no .no .no rfl rfl rfl rfl .no
  have g1 := rg1_ok (j := ps.length) (r62n (by omega))
  cases hs : strictG [] ps with
  | true =>
    rw [hs] at l
    obtain ⟨ρ, e⟩ := l
    exact ls_top1 (Seqd.lst ps).len g1 e
  | false =>
    rw [hs] at l
    obtain ⟨ρ, e⟩ := l
    exact ls_top2 (Seqd.lst ps).len g1 e
end K42
end
section
set_option Elab.async false
set_option linter.all false
set_option maxRecDepth 100000
set_option maxHeartbeats 4000000
namespace K42
open PySem L2 P0

theorem pIsN_ast (ps : List Int) (n : Bool) (ρ : VE) : pIsN n (astray ps) .non ρ = .ok (.d (.bl (if n then (astO ps).isSome else (astO ps).isNone))) ρ := by
  unfold astray
  cases astO ps <;> cases n <;> simp [optI, pIsN]
theorem wrong_none {ps : List Int} (h : wrong ps = none) : ∀ p ∈ ps, -60 ≤ p ∧ p ≤ 60 := fun p hp => by
  have := List.find?_eq_none.mp h p hp
  simp at this
  omega
structure Good (d : Dv) (ps : List Int) : Prop where
  sq : Seqd d ps
  l1 : 1 ≤ ps.length
  l2 : ps.length ≤ 60
  w : wrong ps = none
theorem Good.b {d : Dv} {ps : List Int} (h : Good d ps) : ∀ p ∈ ps, -60 ≤ p ∧ p ≤ 60 := wrong_none h.w
theorem Good.ne {d : Dv} {ps : List Int} (h : Good d ps) : ps ≠ [] := fun z => by have := h.l1; subst z; simp at this
section
variable {d : Dv} {ps : List Int}
theorem run_is_pyramid (h : Good d ps) : ∃ ρ, m_is_pyramid [.val d] = .ok (.d (.bl (astO ps).isNone)) ρ := by
  obtain ⟨ρ1, e1⟩ := run_check_places h.sq h.l1 h.l2 h.w
  obtain ⟨ρ2, e2⟩ := run_first_astray h.sq h.l2 h.ne h.b
  simp [m_is_pyramid, runB, b_is_pyramid, sSeq, sIf, sSet, sRet, sRetN, sExpr, sNil, sFor, sAsg, sSetIx, sPut, sAug, putV, eV, eC, sub, fz, b2, b1, e3, con, ali, toB, eT, tru, tNt, tAn, tO, eAn, eO, eNt, eIf, aC, aN, conL, aliL, eLst, eTup, eDct, oO, oI, eSl, pSl, eB, qAbs, qInt, qList, qTuple, pAdd, pSub, pMul, pDiv, pMod, pPow, pOrd, pEq, pNe, pEqB, pNeg, pIn, pDx, int?, lst?, dct?, tup?, key?, getMu, putMu, getL, getD', mApp, mPop, mPopAt, mGet2, mIndex, gN, gC, gT, iSeq, run_range1, run_range2, iEnum1, iZip2, eCall, eCallI, kCall, kCallI, M.thr, run_setS, run_setF, run_setO, e1, e2, pIsN_ast]
theorem qMin_seq (h : Seqd d ps) (hne : ps ≠ []) (ρ : VE) : qMin [d] ρ = .ok (.d (.int (lmin ps))) ρ := by
  have := List.length_pos_iff.mpr hne
  cases h <;> simp [qMin, items?, this]
theorem run_is_half (h : Good d ps) : ∃ ρ, m_is_half [.val d] = .ok (.d (.bl ((astO ps).isNone && decide (0 ≤ lmin ps)))) ρ := by
  obtain ⟨ρ1, e1⟩ := run_check_places h.sq h.l1 h.l2 h.w
  obtain ⟨ρ2, e2⟩ := run_first_astray h.sq h.l2 h.ne h.b
  have e3 := qMin_seq h.sq h.ne
  cases hn : (astO ps).isNone with
  | true => simp [m_is_half, runB, b_is_half, sSeq, sIf, sSet, sRet, sRetN, sExpr, sNil, sFor, sAsg, sSetIx, sPut, sAug, putV, eV, eC, sub, fz, b2, b1, e3, con, ali, toB, eT, tru, tNt, tAn, tO, eAn, eO, eNt, eIf, aC, aN, conL, aliL, eLst, eTup, eDct, oO, oI, eSl, pSl, eB, qAbs, qInt, qList, qTuple, pAdd, pSub, pMul, pDiv, pMod, pPow, pOrd, pEq, pNe, pEqB, pNeg, pIn, pDx, int?, lst?, dct?, tup?, key?, getMu, putMu, getL, getD', mApp, mPop, mPopAt, mGet2, mIndex, gN, gC, gT, iSeq, run_range1, run_range2, iEnum1, iZip2, eCall, eCallI, kCall, kCallI, M.thr, run_setS, run_setF, run_setO, e1, e2, e3, pIsN_ast, hn]
  | false => simp [m_is_half, runB, b_is_half, sSeq, sIf, sSet, sRet, sRetN, sExpr, sNil, sFor, sAsg, sSetIx, sPut, sAug, putV, eV, eC, sub, fz, b2, b1, e3, con, ali, toB, eT, tru, tNt, tAn, tO, eAn, eO, eNt, eIf, aC, aN, conL, aliL, eLst, eTup, eDct, oO, oI, eSl, pSl, eB, qAbs, qInt, qList, qTuple, pAdd, pSub, pMul, pDiv, pMod, pPow, pOrd, pEq, pNe, pEqB, pNeg, pIn, pDx, int?, lst?, dct?, tup?, key?, getMu, putMu, getL, getD', mApp, mPop, mPopAt, mGet2, mIndex, gN, gC, gT, iSeq, run_range1, run_range2, iEnum1, iZip2, eCall, eCallI, kCall, kCallI, M.thr, run_setS, run_setF, run_setO, e1, e2, e3, pIsN_ast, hn]
theorem run_levels (h : Good d ps) (ha : astO ps = none) : ∃ ρ, m_levels [.val d] = .ok (.fr (.lst (iz ((lvG [] ps).map (·.2))))) ρ := by
  obtain ⟨ρ1, e1⟩ := run_check_places h.sq h.l1 h.l2 h.w
  obtain ⟨ρ2, e2⟩ := run_first_astray h.sq h.l2 h.ne h.b
  have h60 := h.l2
  obtain ⟨ρ3, e3⟩ := run_drop h.sq (by omega)
  have e4 := pIsN_ast ps true
  rw [ha] at e4
  simp [m_levels, runB, b_levels, sSeq, sIf, sSet, sRet, sRetN, sExpr, sNil, sFor, sAsg, sSetIx, sPut, sAug, putV, eV, eC, sub, fz, b2, b1, e3, con, ali, toB, eT, tru, tNt, tAn, tO, eAn, eO, eNt, eIf, aC, aN, conL, aliL, eLst, eTup, eDct, oO, oI, eSl, pSl, eB, qAbs, qInt, qList, qTuple, pAdd, pSub, pMul, pDiv, pMod, pPow, pOrd, pEq, pNe, pEqB, pNeg, pIn, pDx, int?, lst?, dct?, tup?, key?, getMu, putMu, getL, getD', mApp, mPop, mPopAt, mGet2, mIndex, gN, gC, gT, iSeq, run_range1, run_range2, iEnum1, iZip2, eCall, eCallI, kCall, kCallI, M.thr, run_setS, run_setF, run_setO, e1, e2, e3, e4]
theorem exc_levels (h : Good d ps) {i : Nat} {p : Int} (ha : astO ps = some i) (hp : ps[i]? = some p) : ∃ ρ, m_levels [.val d] = .exc ⟨"RootError", some [("y", .int p), ("x", .int i)]⟩ ρ := by
  obtain ⟨ρ1, e1⟩ := run_check_places h.sq h.l1 h.l2 h.w
  obtain ⟨ρ2, e2⟩ := run_first_astray h.sq h.l2 h.ne h.b
  have e4 := pIsN_ast ps true
  rw [ha] at e4
  have e5 := ix_at h.sq hp
  have e6 : astray ps = .int (i : Int) := by unfold astray; rw [ha]; rfl
  rw [e6] at e2 e4
  simp [m_levels, runB, b_levels, sSeq, sIf, sSet, sRet, sRetN, sExpr, sNil, sFor, sAsg, sSetIx, sPut, sAug, putV, eV, eC, sub, fz, b2, b1, e3, con, ali, toB, eT, tru, tNt, tAn, tO, eAn, eO, eNt, eIf, aC, aN, conL, aliL, eLst, eTup, eDct, oO, oI, eSl, pSl, eB, qAbs, qInt, qList, qTuple, pAdd, pSub, pMul, pDiv, pMod, pPow, pOrd, pEq, pNe, pEqB, pNeg, pIn, pDx, int?, lst?, dct?, tup?, key?, getMu, putMu, getL, getD', mApp, mPop, mPopAt, mGet2, mIndex, gN, gC, gT, iSeq, run_range1, run_range2, iEnum1, iZip2, eCall, eCallI, kCall, kCallI, M.thr, run_setS, run_setF, run_setO, e1, e2, e4, e5, sRaise]
end
end K42
end
section
set_option Elab.async false
set_option linter.all false
set_option maxRecDepth 100000
set_option maxHeartbeats 4000000
namespace K42
open PySem L2 P0

/-- the places whose flag is b -/
def pick (b : Bool) (acc : List (Int × Bool)) : List Int := (acc.filter fun q => q.2 == b).map (·.1)
def fB (b : Bool) : Dv → Bool
  | .tup [_, .bl c] => c == b
  | _ => false
def eB1 : Dv → Dv
  | .tup [x, _] => x
  | d => d
theorem zipD_acc (acc : List (Int × Bool)) : zipD (iz (acc.map (·.1))) (bz (acc.map (·.2))) = acc.map fun q => Dv.tup [.int q.1, .bl q.2] := by
  induction acc with
  | nil => rfl
  | cons a t ih =>
    unfold zipD at ih ⊢
    simp only [List.map_cons, iz_cons, bz_cons, List.zip_cons_cons, ih]
theorem pick_zip (b : Bool) (acc : List (Int × Bool)) : ((acc.map fun q => Dv.tup [.int q.1, .bl q.2]).filter (fB b)).map eB1 = iz (pick b acc) := by
  unfold pick iz
  rw [List.filter_map, List.map_map, List.map_map]
  rfl
theorem walk_lst (xs : List Dv) : walk? (.lst xs) = some xs := rfl
theorem sp_comp1 {d a2 : Dv} {t s3 s4 s5 s6 : Sl} {acc : List (Int × Bool)} (hz : walk? d = some (iz (acc.map (·.1)))) (h5 : NV s5) (h6 : NV s6) (hl : acc.length < 1000) :
    eComp [5, 6] (iZip2 (aC (sub (eV 0)) (aC (sub (eV 2)) aN))) (gT 2 (gC (setS 5) (gC (setS 6) gN))) T1_split_at E1_split_at [.val d, t, .mu false (.lst (bz (acc.map (·.2)))), s3, s4, s5, s6] =
      .ok (.fr (.lst (iz (pick false acc)))) [.val d, t, .val (.lst (bz (acc.map (·.2)))), s3, s4, .no, .no] := by
  have c := compL_gen (vs := [5, 6]) (mg := gT 2 (gC (setS 5) (gC (setS 6) gN))) (mt := T1_split_at) (me := E1_split_at) (ρ0 := [.val d, t, .val (.lst (bz (acc.map (·.2)))), s3, s4, .no, .no]) (fB false) eB1
    (fun x => match x with | .tup [x, y] => [.val d, t, .val (.lst (bz (acc.map (·.2)))), s3, s4, .val x, .val y] | _ => []) (acc.map fun q => Dv.tup [.int q.1, .bl q.2]) [] [.val d, t, .val (.lst (bz (acc.map (·.2)))), s3, s4, s5, s6] (by simp [h5.io, h6.io]) rfl (fun x hx => by
      obtain ⟨q, hq, rfl⟩ := List.mem_map.mp hx
      refine ⟨by simp [gT, gC, gN, tup?, run_setS], ?_, fun _ => ?_, rfl, rfl⟩
      · cases q.2 <;> simp [T1_split_at, tNt, eT, sub, eV, fz, con, tru, fB]
      · simp [E1_split_at, sub, eV, fz, eB1]) (by simp; exact Nat.lt_of_lt_of_le hl (by decide))
  rw [pick_zip] at c
  unfold eComp
  rw [run_bind]
  have i : iZip2 (aC (sub (eV 0)) (aC (sub (eV 2)) aN)) [.val d, t, .mu false (.lst (bz (acc.map (·.2)))), s3, s4, s5, s6] = .ok (acc.map fun q => Dv.tup [.int q.1, .bl q.2]) [.val d, t, .val (.lst (bz (acc.map (·.2)))), s3, s4, s5, s6] := by
    rw [← zipD_acc]
    simp [iZip2, aC, aN, sub, eV, fz, aliL, ali, hz, walk_lst]
  rw [i]
  simp only [run_bind]
  unfold noX
  rw [c]
  rfl
theorem sp_comp2 {d a2 : Dv} {t s3 s4 s5 s6 : Sl} {acc : List (Int × Bool)} (hz : walk? d = some (iz (acc.map (·.1)))) (h5 : NV s5) (h6 : NV s6) (hl : acc.length < 1000) :
    eComp [5, 6] (iZip2 (aC (sub (eV 0)) (aC (sub (eV 2)) aN))) (gT 2 (gC (setS 5) (gC (setS 6) gN))) T2_split_at E2_split_at [.val d, t, .val (.lst (bz (acc.map (·.2)))), s3, s4, s5, s6] =
      .ok (.fr (.lst (iz (pick true acc)))) [.val d, t, .val (.lst (bz (acc.map (·.2)))), s3, s4, .no, .no] := by
  have c := compL_gen (vs := [5, 6]) (mg := gT 2 (gC (setS 5) (gC (setS 6) gN))) (mt := T2_split_at) (me := E2_split_at) (ρ0 := [.val d, t, .val (.lst (bz (acc.map (·.2)))), s3, s4, .no, .no]) (fB true) eB1
    (fun x => match x with | .tup [x, y] => [.val d, t, .val (.lst (bz (acc.map (·.2)))), s3, s4, .val x, .val y] | _ => []) (acc.map fun q => Dv.tup [.int q.1, .bl q.2]) [] [.val d, t, .val (.lst (bz (acc.map (·.2)))), s3, s4, s5, s6] (by simp [h5.io, h6.io]) rfl (fun x hx => by
      obtain ⟨q, hq, rfl⟩ := List.mem_map.mp hx
      refine ⟨by simp [gT, gC, gN, tup?, run_setS], ?_, fun _ => ?_, rfl, rfl⟩
      · cases q.2 <;> simp [T2_split_at, eT, sub, eV, fz, con, tru, fB]
      · simp [E2_split_at, sub, eV, fz, eB1]) (by simp; exact Nat.lt_of_lt_of_le hl (by decide))
  rw [pick_zip] at c
  unfold eComp
  rw [run_bind]
  have i : iZip2 (aC (sub (eV 0)) (aC (sub (eV 2)) aN)) [.val d, t, .val (.lst (bz (acc.map (·.2)))), s3, s4, s5, s6] = .ok (acc.map fun q => Dv.tup [.int q.1, .bl q.2]) [.val d, t, .val (.lst (bz (acc.map (·.2)))), s3, s4, s5, s6] := by
    rw [← zipD_acc]
    simp [iZip2, aC, aN, sub, eV, fz, aliL, ali, hz, walk_lst]
  rw [i]
  simp only [run_bind]
  unfold noX
  rw [c]
  rfl
def pairT (acc : List (Int × Bool)) : Ot := .tup [.lst (fzs (iz (pick false acc))), .lst (fzs (iz (pick true acc)))]
theorem run_split_at {d : Dv} {ps : List Int} (t : Int) (h : Seqd d ps) (hl : ps.length ≤ 60) (hb : ∀ p ∈ ps, -60 ≤ p ∧ p ≤ 60) : ∃ ρ, m_split_at [.val d, .val (.int t)] = .ok (.ow (pairT (onG t [] ps))) ρ := by
  obtain ⟨ρ1, e1⟩ := run_lying_on t h hl hb
  have hf : (onG t [] ps).map (·.1) = ps := by rw [onG_fst]; rfl
  have hz : walk? d = some (iz ((onG t [] ps).map (·.1))) := by rw [hf]; exact h.walk
  have hn : (onG t [] ps).length < 1000 := by rw [onG_length]; simp; omega
  generalize onG t [] ps = acc at *
  have s1 : sSet 2 (eCall 2 m_lying_on (aC (sub (eV 0)) (aC (sub (eV 1)) aN))) [.val d, .val (.int t), .no, .no, .no, .no, .no] = .ok .nx [.val d, .val (.int t), .mu false (.lst (bz (acc.map (·.2)))), .no, .no, .no, .no] :=
    set_fr (ρ' := [.val d, .val (.int t), .no, .no, .no, .no, .no]) (by simp [eCall, aC, aN, sub, eV, fz, aliL, ali, kCall, e1]) (by simp) rfl
  have s2 := set_fr (i := 3) (sp_comp1 (a2 := d) (t := .val (.int t)) (s3 := .no) (s4 := .no) hz .no .no hn) (by simp) rfl
  have s3 := set_fr (i := 4) (sp_comp2 (a2 := d) (t := .val (.int t)) (s3 := .mu false (.lst (iz (pick false acc)))) (s4 := .no) hz .no .no hn) (by simp) rfl
  simp only [List.set_cons_succ, List.set_cons_zero] at s2 s3
  have q2 : 2 ≤ sizeLine := by decide
  unfold m_split_at runB b_split_at
  have e0 : [Sl.val d, .val (.int t)] ++ List.replicate 5 Sl.no = [.val d, .val (.int t), .no, .no, .no, .no, .no] := rfl
  rw [e0, seq_nx s1, seq_nx s2, seq_nx s3]
  simp [sRet, eTupO, aC, aN, sub, eV, fz, mvL, mvA, otOf, q2, pairT]
theorem run_pushed {d : Dv} {ps : List Int} {t : Int} (h : Good d ps) (h0 : 0 ≤ t) (h1 : t ≤ (ps.length : Int) - 1) : ∃ ρ, m_pushed [.val d, .val (.int t)] = .ok (.ow (pairT (onG t [] ps))) ρ := by
  obtain ⟨ρ1, e1⟩ := run_check_places h.sq h.l1 h.l2 h.w
  obtain ⟨ρ2, e2⟩ := run_split_at t h.sq h.l2 h.b
  have e3 := run_check_number t 0 ((ps.length : Int) - 1) h0 h1
  have e4 := h.sq.len
  generalize (ps.length : Int) = n at *
  simp [m_pushed, runB, b_pushed, sSeq, sIf, sSet, sRet, sRetN, sExpr, sNil, sFor, sAsg, sSetIx, sPut, sAug, putV, eV, eC, sub, fz, b2, b1, e3, con, ali, toB, eT, tru, tNt, tAn, tO, eAn, eO, eNt, eIf, aC, aN, conL, aliL, eLst, eTup, eDct, oO, oI, eSl, pSl, eB, qAbs, qInt, qList, qTuple, pAdd, pSub, pMul, pDiv, pMod, pPow, pOrd, pEq, pNe, pEqB, pNeg, pIsN, pIn, pDx, int?, lst?, dct?, tup?, key?, getMu, putMu, getL, getD', mApp, mPop, mPopAt, mGet2, mIndex, gN, gC, gT, iSeq, run_range1, run_range2, iEnum1, iZip2, eCall, eCallI, kCall, kCallI, M.thr, run_setS, run_setF, run_setO, e1, e2, e3, e4]
theorem exc_pushed {d : Dv} {ps : List Int} {t : Int} (h : Good d ps) (h0 : t < 0 ∨ (ps.length : Int) - 1 < t) : ∃ ρ, m_pushed [.val d, .val (.int t)] = .exc ⟨"NumberError", some [("number", .int t)]⟩ ρ := by
  obtain ⟨ρ1, e1⟩ := run_check_places h.sq h.l1 h.l2 h.w
  obtain ⟨ρ3, e3⟩ := exc_check_number t 0 ((ps.length : Int) - 1) h0
  have e4 := h.sq.len
  generalize (ps.length : Int) = n at *
  simp [m_pushed, runB, b_pushed, sSeq, sIf, sSet, sRet, sRetN, sExpr, sNil, sFor, sAsg, sSetIx, sPut, sAug, putV, eV, eC, sub, fz, b2, b1, e3, con, ali, toB, eT, tru, tNt, tAn, tO, eAn, eO, eNt, eIf, aC, aN, conL, aliL, eLst, eTup, eDct, oO, oI, eSl, pSl, eB, qAbs, qInt, qList, qTuple, pAdd, pSub, pMul, pDiv, pMod, pPow, pOrd, pEq, pNe, pEqB, pNeg, pIsN, pIn, pDx, int?, lst?, dct?, tup?, key?, getMu, putMu, getL, getD', mApp, mPop, mPopAt, mGet2, mIndex, gN, gC, gT, iSeq, run_range1, run_range2, iEnum1, iZip2, eCall, eCallI, kCall, kCallI, M.thr, run_setS, run_setF, run_setO, e1, e3, e4]
/-! the refusals that all five have -/
theorem exc_all {d : Dv} {er : Er} {ρ : VE} (e : m_check_places [.val d] = .exc er ρ) (t : Int) :
    (∃ ρ, m_is_pyramid [.val d] = .exc er ρ) ∧ (∃ ρ, m_is_strict [.val d] = .exc er ρ) ∧ (∃ ρ, m_is_half [.val d] = .exc er ρ) ∧ (∃ ρ, m_levels [.val d] = .exc er ρ) ∧ ∃ ρ, m_pushed [.val d, .val (.int t)] = .exc er ρ := by
  refine ⟨?_, ?_, ?_, ?_, ?_⟩
  · simp [m_is_pyramid, runB, b_is_pyramid, sSeq, sIf, sSet, sRet, sRetN, sExpr, sNil, sFor, sAsg, sSetIx, sPut, sAug, putV, eV, eC, sub, fz, b2, b1, e3, con, ali, toB, eT, tru, tNt, tAn, tO, eAn, eO, eNt, eIf, aC, aN, conL, aliL, eLst, eTup, eDct, oO, oI, eSl, pSl, eB, qAbs, qInt, qList, qTuple, pAdd, pSub, pMul, pDiv, pMod, pPow, pOrd, pEq, pNe, pEqB, pNeg, pIsN, pIn, pDx, int?, lst?, dct?, tup?, key?, getMu, putMu, getL, getD', mApp, mPop, mPopAt, mGet2, mIndex, gN, gC, gT, iSeq, run_range1, run_range2, iEnum1, iZip2, eCall, eCallI, kCall, kCallI, M.thr, run_setS, run_setF, run_setO, e]
  · simp [m_is_strict, runB, b_is_strict, sSeq, sIf, sSet, sRet, sRetN, sExpr, sNil, sFor, sAsg, sSetIx, sPut, sAug, putV, eV, eC, sub, fz, b2, b1, e3, con, ali, toB, eT, tru, tNt, tAn, tO, eAn, eO, eNt, eIf, aC, aN, conL, aliL, eLst, eTup, eDct, oO, oI, eSl, pSl, eB, qAbs, qInt, qList, qTuple, pAdd, pSub, pMul, pDiv, pMod, pPow, pOrd, pEq, pNe, pEqB, pNeg, pIsN, pIn, pDx, int?, lst?, dct?, tup?, key?, getMu, putMu, getL, getD', mApp, mPop, mPopAt, mGet2, mIndex, gN, gC, gT, iSeq, run_range1, run_range2, iEnum1, iZip2, eCall, eCallI, kCall, kCallI, M.thr, run_setS, run_setF, run_setO, e]
  · simp [m_is_half, runB, b_is_half, sSeq, sIf, sSet, sRet, sRetN, sExpr, sNil, sFor, sAsg, sSetIx, sPut, sAug, putV, eV, eC, sub, fz, b2, b1, e3, con, ali, toB, eT, tru, tNt, tAn, tO, eAn, eO, eNt, eIf, aC, aN, conL, aliL, eLst, eTup, eDct, oO, oI, eSl, pSl, eB, qAbs, qInt, qList, qTuple, pAdd, pSub, pMul, pDiv, pMod, pPow, pOrd, pEq, pNe, pEqB, pNeg, pIsN, pIn, pDx, int?, lst?, dct?, tup?, key?, getMu, putMu, getL, getD', mApp, mPop, mPopAt, mGet2, mIndex, gN, gC, gT, iSeq, run_range1, run_range2, iEnum1, iZip2, eCall, eCallI, kCall, kCallI, M.thr, run_setS, run_setF, run_setO, e]
  · simp [m_levels, runB, b_levels, sSeq, sIf, sSet, sRet, sRetN, sExpr, sNil, sFor, sAsg, sSetIx, sPut, sAug, putV, eV, eC, sub, fz, b2, b1, e3, con, ali, toB, eT, tru, tNt, tAn, tO, eAn, eO, eNt, eIf, aC, aN, conL, aliL, eLst, eTup, eDct, oO, oI, eSl, pSl, eB, qAbs, qInt, qList, qTuple, pAdd, pSub, pMul, pDiv, pMod, pPow, pOrd, pEq, pNe, pEqB, pNeg, pIsN, pIn, pDx, int?, lst?, dct?, tup?, key?, getMu, putMu, getL, getD', mApp, mPop, mPopAt, mGet2, mIndex, gN, gC, gT, iSeq, run_range1, run_range2, iEnum1, iZip2, eCall, eCallI, kCall, kCallI, M.thr, run_setS, run_setF, run_setO, e]
  · simp [m_pushed, runB, b_pushed, sSeq, sIf, sSet, sRet, sRetN, sExpr, sNil, sFor, sAsg, sSetIx, sPut, sAug, putV, eV, eC, sub, fz, b2, b1, e3, con, ali, toB, eT, tru, tNt, tAn, tO, eAn, eO, eNt, eIf, aC, aN, conL, aliL, eLst, eTup, eDct, oO, oI, eSl, pSl, eB, qAbs, qInt, qList, qTuple, pAdd, pSub, pMul, pDiv, pMod, pPow, pOrd, pEq, pNe, pEqB, pNeg, pIsN, pIn, pDx, int?, lst?, dct?, tup?, key?, getMu, putMu, getL, getD', mApp, mPop, mPopAt, mGet2, mIndex, gN, gC, gT, iSeq, run_range1, run_range2, iEnum1, iZip2, eCall, eCallI, kCall, kCallI, M.thr, run_setS, run_setF, run_setO, e]
end K42
end
section
set_option Elab.async false
set_option linter.all false
set_option maxRecDepth 100000
set_option maxHeartbeats 4000000
namespace K42
open PySem L2 P0

theorem filter_wrong (ps : List Int) : (ps.filter fun p => decide (p < -60) || decide (60 < p)).head? = wrong ps := by
  unfold wrong
  rw [List.head?_filter]
theorem due_size {w t : Int} {ps : List Int} (h : ps.length < 1 ∨ 60 < ps.length) : ∃ ρ, m__law_due [.val (.int w), .val (.lst (iz ps)), .val (.int t)] = .ok (.fr (.lst [.str "size", .int ps.length, .bl false])) ρ := by
  have e := (Seqd.lst ps).len
  have q3 : 3 ≤ sizeLine := by decide
  have hn : (ps.length : Int) < 1 ∨ 60 < (ps.length : Int) := by omega
  generalize (ps.length : Int) = n at *
  by_cases h1 : n < 1
  · simp [m__law_due, runB, b__law_due, sSeq, sIf, sSet, sRet, sRetN, sExpr, sNil, sFor, sAsg, sSetIx, sPut, sAug, putV, eV, eC, sub, fz, b2, b1, e3, con, ali, toB, eT, tru, tNt, tAn, tO, eAn, eO, eNt, eIf, aC, aN, conL, aliL, eLst, eTup, eDct, oO, oI, eSl, pSl, eB, qAbs, qInt, qList, qTuple, pAdd, pSub, pMul, pDiv, pMod, pPow, pOrd, pEq, pNe, pEqB, pNeg, pIsN, pIn, pDx, int?, lst?, dct?, tup?, key?, getMu, putMu, getL, getD', mApp, mPop, mPopAt, mGet2, mIndex, gN, gC, gT, iSeq, run_range1, run_range2, iEnum1, iZip2, eCall, eCallI, kCall, kCallI, M.thr, run_setS, run_setF, run_setO, e, h1, q3]
  · have h2 : 60 < n := by omega
    simp [m__law_due, runB, b__law_due, sSeq, sIf, sSet, sRet, sRetN, sExpr, sNil, sFor, sAsg, sSetIx, sPut, sAug, putV, eV, eC, sub, fz, b2, b1, e3, con, ali, toB, eT, tru, tNt, tAn, tO, eAn, eO, eNt, eIf, aC, aN, conL, aliL, eLst, eTup, eDct, oO, oI, eSl, pSl, eB, qAbs, qInt, qList, qTuple, pAdd, pSub, pMul, pDiv, pMod, pPow, pOrd, pEq, pNe, pEqB, pNeg, pIsN, pIn, pDx, int?, lst?, dct?, tup?, key?, getMu, putMu, getL, getD', mApp, mPop, mPopAt, mGet2, mIndex, gN, gC, gT, iSeq, run_range1, run_range2, iEnum1, iZip2, eCall, eCallI, kCall, kCallI, M.thr, run_setS, run_setF, run_setO, e, h1, h2, q3]
theorem due_comp {w t : Sl} {ps : List Int} (hl : ps.length ≤ 1000) :
    sSet 3 (eComp [8] (iSeq (sub (eV 1))) (setS 8) T1__law_due E1__law_due) [w, .val (.lst (iz ps)), t, .no, .no, .no, .no, .no, .no, .no] =
      .ok .nx [w, .val (.lst (iz ps)), t, .mu false (.lst (iz (ps.filter fun p => decide (p < -60) || decide (60 < p)))), .no, .no, .no, .no, .no, .no] := by
  have c := compL_gen (vs := [8]) (mg := setS 8) (mt := T1__law_due) (me := E1__law_due) (ρ0 := [w, .val (.lst (iz ps)), t, .no, .no, .no, .no, .no, .no, .no]) (fun x => match x with | .int p => decide (p < -60) || decide (60 < p) | _ => false) (fun x => x)
    (fun x => [w, .val (.lst (iz ps)), t, .no, .no, .no, .no, .no, .val x, .no]) (iz ps) [] [w, .val (.lst (iz ps)), t, .no, .no, .no, .no, .no, .no, .no] rfl rfl (fun x hx => by
      obtain ⟨p, hp, rfl⟩ := List.mem_map.mp hx
      refine ⟨rfl, ?_, fun _ => ?_, rfl, rfl⟩
      · by_cases h1 : p < -60
        · simp [T1__law_due, sSeq, sIf, sSet, sRet, sRetN, sExpr, sNil, sFor, sAsg, sSetIx, sPut, sAug, putV, eV, eC, sub, fz, b2, b1, e3, con, ali, toB, eT, tru, tNt, tAn, tO, eAn, eO, eNt, eIf, aC, aN, conL, aliL, eLst, eTup, eDct, oO, oI, eSl, pSl, eB, qLen, qAbs, qInt, qList, qTuple, pAdd, pSub, pMul, pDiv, pMod, pPow, pOrd, pEq, pNe, pEqB, pNeg, pIsN, pIn, pIx, pDx, items?, int?, lst?, dct?, tup?, key?, getMu, putMu, getL, getD', mApp, mPop, mPopAt, mGet2, mIndex, gN, gC, gT, iSeq, walk?, run_range1, run_range2, iEnum1, iZip2, eCall, eCallI, kCall, kCallI, M.thr, run_setS, run_setF, run_setO, h1]
        · simp [T1__law_due, sSeq, sIf, sSet, sRet, sRetN, sExpr, sNil, sFor, sAsg, sSetIx, sPut, sAug, putV, eV, eC, sub, fz, b2, b1, e3, con, ali, toB, eT, tru, tNt, tAn, tO, eAn, eO, eNt, eIf, aC, aN, conL, aliL, eLst, eTup, eDct, oO, oI, eSl, pSl, eB, qLen, qAbs, qInt, qList, qTuple, pAdd, pSub, pMul, pDiv, pMod, pPow, pOrd, pEq, pNe, pEqB, pNeg, pIsN, pIn, pIx, pDx, items?, int?, lst?, dct?, tup?, key?, getMu, putMu, getL, getD', mApp, mPop, mPopAt, mGet2, mIndex, gN, gC, gT, iSeq, walk?, run_range1, run_range2, iEnum1, iZip2, eCall, eCallI, kCall, kCallI, M.thr, run_setS, run_setF, run_setO, h1]
      · simp [E1__law_due, sub, eV, fz]) (by simp; exact Nat.lt_of_le_of_lt hl (by decide))
  refine set_fr (ρ' := [w, .val (.lst (iz ps)), t, .no, .no, .no, .no, .no, .no, .no]) ?_ (by simp) rfl
  unfold eComp
  rw [run_bind]
  have i : iSeq (sub (eV 1)) [w, .val (.lst (iz ps)), t, .no, .no, .no, .no, .no, .no, .no] = .ok (iz ps) [w, .val (.lst (iz ps)), t, .no, .no, .no, .no, .no, .no, .no] := by
    simp [iSeq, sub, eV, fz, ali, walk_lst]
  rw [i]
  simp only [run_bind]
  unfold noX
  rw [c]
  simp only [run_pure, List.nil_append, List.map_id']
  congr 3
  unfold iz
  rw [List.filter_map]
  rfl
theorem due_number {w t : Int} {ps : List Int} {p : Int} (h1 : 1 ≤ ps.length) (h2 : ps.length ≤ 60) (hw : wrong ps = some p) : ∃ ρ, m__law_due [.val (.int w), .val (.lst (iz ps)), .val (.int t)] = .ok (.fr (.lst [.str "number", .int p, .bl false])) ρ := by
  have e := (Seqd.lst ps).len
  have q3 : 3 ≤ sizeLine := by decide
  have c := due_comp (w := .val (.int w)) (t := .val (.int t)) (ps := ps) (by omega)
  rw [← filter_wrong] at hw
  generalize (ps.filter fun p => decide (p < -60) || decide (60 < p)) = ws at *
  obtain ⟨rest, rfl⟩ : ∃ rest, ws = p :: rest := by
    cases ws with
    | nil => cases hw
    | cons a b => cases hw; exact ⟨b, rfl⟩
  have e1 := ix_at (Seqd.lst (p :: rest)) (j := 0) (x := p) rfl
  have e1 : ∀ ρ, pIx (.lst (.int p :: iz rest)) (.int 0) ρ = .ok (.d (.int p)) ρ := e1
  have n1 : ¬ (ps.length : Int) < 1 := by omega
  have n2 : ¬ 60 < (ps.length : Int) := by omega
  generalize (ps.length : Int) = n at *
  unfold m__law_due runB b__law_due
  have e0 : [Sl.val (.int w), .val (.lst (iz ps)), .val (.int t)] ++ List.replicate 7 Sl.no = [.val (.int w), .val (.lst (iz ps)), .val (.int t), .no, .no, .no, .no, .no, .no, .no] := rfl
  rw [e0, seq_nx (ρ' := [.val (.int w), .val (.lst (iz ps)), .val (.int t), .no, .no, .no, .no, .no, .no, .no]) (by simp [sSeq, sIf, sSet, sRet, sRetN, sExpr, sNil, sFor, sAsg, sSetIx, sPut, sAug, putV, eV, eC, sub, fz, b2, b1, e3, con, ali, toB, eT, tru, tNt, tAn, tO, eAn, eO, eNt, eIf, aC, aN, conL, aliL, eLst, eTup, eDct, oO, oI, eSl, pSl, eB, qAbs, qInt, qList, qTuple, pAdd, pSub, pMul, pDiv, pMod, pPow, pOrd, pEq, pNe, pEqB, pNeg, pIsN, pIn, pDx, int?, lst?, dct?, tup?, key?, getMu, putMu, getL, getD', mApp, mPop, mPopAt, mGet2, mIndex, gN, gC, gT, iSeq, run_range1, run_range2, iEnum1, iZip2, eCall, eCallI, kCall, kCallI, M.thr, run_setS, run_setF, run_setO, e, n1, n2])]
  unfold R1__law_due
  rw [seq_nx c]
  simp [R2__law_due, sSeq, sIf, sSet, sRet, sRetN, sExpr, sNil, sFor, sAsg, sSetIx, sPut, sAug, putV, eV, eC, sub, fz, b2, b1, e3, con, ali, toB, eT, tru, tNt, tAn, tO, eAn, eO, eNt, eIf, aC, aN, conL, aliL, eLst, eTup, eDct, oO, oI, eSl, pSl, eB, qAbs, qInt, qList, qTuple, pAdd, pSub, pMul, pDiv, pMod, pPow, pOrd, pEq, pNe, pEqB, pNeg, pIsN, pIn, pDx, int?, lst?, dct?, tup?, key?, getMu, putMu, getL, getD', mApp, mPop, mPopAt, mGet2, mIndex, gN, gC, gT, iSeq, run_range1, run_range2, iEnum1, iZip2, eCall, eCallI, kCall, kCallI, M.thr, run_setS, run_setF, run_setO, e1, q3]
/-- what a def does, told by its body -/
def fin (r : R Fl) : R RV := match r with
  | .ok (.rt (.bor i)) ρ => match ρ[i]? with
    | some (.mu false d) => .ok (.fr d) (ρ.set i .no)
    | some (.ot t) => .ok (.ow t) (ρ.set i .no)
    | some (.val d) => .ok (.d d) ρ
    | _ => .bad
  | .ok (.rt rv) ρ => .ok rv ρ
  | .ok .nx ρ => .ok (.d .non) ρ
  | .ok .bk _ => .bad
  | .ok .ct _ => .bad
  | .exc e ρ => .exc e ρ
  | .bad => .bad
theorem runB_fin (n : Nat) (b : M Fl) (sl : List Sl) : runB n b sl = fin (b (sl ++ List.replicate n Sl.no)) := rfl
/-- behind the tests: nothing is wrong -/
theorem due_head {w t : Int} {ps : List Int} (h : Good (.lst (iz ps)) ps) : m__law_due [.val (.int w), .val (.lst (iz ps)), .val (.int t)] = fin (R3__law_due [.val (.int w), .val (.lst (iz ps)), .val (.int t), .mu false (.lst []), .no, .no, .no, .no, .no, .no]) := by
  have e := (Seqd.lst ps).len
  have h2 := h.l2
  have h1 := h.l1
  have c := due_comp (w := .val (.int w)) (t := .val (.int t)) (ps := ps) (by omega)
  have hw := h.w
  rw [← filter_wrong, List.head?_eq_none_iff] at hw
  rw [hw] at c
  have n1 : ¬ (ps.length : Int) < 1 := by omega
  have n2 : ¬ 60 < (ps.length : Int) := by omega
  generalize (ps.length : Int) = n at *
  unfold m__law_due b__law_due
  rw [runB_fin]
  have e0 : [Sl.val (.int w), .val (.lst (iz ps)), .val (.int t)] ++ List.replicate 7 Sl.no = [.val (.int w), .val (.lst (iz ps)), .val (.int t), .no, .no, .no, .no, .no, .no, .no] := rfl
  rw [e0, seq_nx (ρ' := [.val (.int w), .val (.lst (iz ps)), .val (.int t), .no, .no, .no, .no, .no, .no, .no]) (by simp [sSeq, sIf, sSet, sRet, sRetN, sExpr, sNil, sFor, sAsg, sSetIx, sPut, sAug, putV, eV, eC, sub, fz, b2, b1, e3, con, ali, toB, eT, tru, tNt, tAn, tO, eAn, eO, eNt, eIf, aC, aN, conL, aliL, eLst, eTup, eDct, oO, oI, eSl, pSl, eB, qAbs, qInt, qList, qTuple, pAdd, pSub, pMul, pDiv, pMod, pPow, pOrd, pEq, pNe, pEqB, pNeg, pIsN, pIn, pDx, int?, lst?, dct?, tup?, key?, getMu, putMu, getL, getD', mApp, mPop, mPopAt, mGet2, mIndex, gN, gC, gT, iSeq, run_range1, run_range2, iEnum1, iZip2, eCall, eCallI, kCall, kCallI, M.thr, run_setS, run_setF, run_setO, e, n1, n2])]
  unfold R1__law_due
  rw [seq_nx c]
  unfold R2__law_due
  rw [seq_nx (ρ' := [.val (.int w), .val (.lst (iz ps)), .val (.int t), .mu false (.lst []), .no, .no, .no, .no, .no, .no]) (by simp [sSeq, sIf, sSet, sRet, sRetN, sExpr, sNil, sFor, sAsg, sSetIx, sPut, sAug, putV, eV, eC, sub, fz, b2, b1, e3, con, ali, toB, eT, tru, tNt, tAn, tO, eAn, eO, eNt, eIf, aC, aN, conL, aliL, eLst, eTup, eDct, oO, oI, eSl, pSl, eB, qAbs, qInt, qList, qTuple, pAdd, pSub, pMul, pDiv, pMod, pPow, pOrd, pEq, pNe, pEqB, pNeg, pIsN, pIn, pDx, int?, lst?, dct?, tup?, key?, getMu, putMu, getL, getD', mApp, mPop, mPopAt, mGet2, mIndex, gN, gC, gT, iSeq, run_range1, run_range2, iEnum1, iZip2, eCall, eCallI, kCall, kCallI, M.thr, run_setS, run_setF, run_setO])]
end K42
end
section
set_option Elab.async false
set_option linter.all false
set_option maxRecDepth 100000
set_option maxHeartbeats 4000000
namespace K42
open PySem L2 P0

theorem call1 {φ : List Sl → R RV} {i : Nat} {ρ : VE} {d : Dv} {rv : RV} {ρ0 : VE} (g : ρ[i]? = some (.val d)) (e2 : φ [.val d] = .ok rv ρ0) : eCall 1 φ (aC (sub (eV i)) aN) ρ = .ok rv ρ := by
  simp [sSeq, sIf, sSet, sRet, sRetN, sExpr, sNil, sFor, sAsg, sSetIx, sPut, sAug, putV, eV, eC, sub, fz, b2, b1, e3, con, ali, toB, eT, tru, tNt, tAn, tO, eAn, eO, eNt, eIf, aC, aN, conL, aliL, eLst, eTup, eDct, oO, oI, eSl, pSl, eB, qAbs, qInt, qList, qTuple, pAdd, pSub, pMul, pDiv, pMod, pPow, pOrd, pEq, pNe, pEqB, pNeg, pIsN, pDx, int?, lst?, dct?, tup?, key?, getMu, putMu, getL, getD', mApp, mPop, mPopAt, mGet2, mIndex, gN, gC, gT, iSeq, run_range1, run_range2, iEnum1, iZip2, eCall, eCallI, kCall, kCallI, M.thr, run_setS, run_setF, run_setO, e2, g]
theorem told {m : M RV} {d : Dv} {ρ ρ' : VE} (q : 2 ≤ sizeLine) (e : m ρ = .ok (.d d) ρ') : eLst (aC (sub (eC (.str "told"))) (aC (sub m) aN)) ρ = .ok (.fr (.lst [.str "told", d])) ρ' := by
  simp [sSeq, sIf, sSet, sRet, sRetN, sExpr, sNil, sFor, sAsg, sSetIx, sPut, sAug, putV, eV, eC, sub, fz, b2, b1, e3, con, ali, toB, eT, tru, tNt, tAn, tO, eAn, eO, eNt, eIf, aC, aN, conL, aliL, eLst, eTup, eDct, oO, oI, eSl, pSl, eB, qAbs, qInt, qList, qTuple, pAdd, pSub, pMul, pDiv, pMod, pPow, pOrd, pEq, pNe, pEqB, pNeg, pIsN, pDx, int?, lst?, dct?, tup?, key?, getMu, putMu, getL, getD', mApp, mPop, mPopAt, mGet2, mIndex, gN, gC, gT, iSeq, run_range1, run_range2, iEnum1, iZip2, eCall, eCallI, kCall, kCallI, M.thr, run_setS, run_setF, run_setO, e, q]
theorem and_t {m n : M RV} {ρ ρ' : VE} {r : R RV} (e : m ρ = .ok (.d (.bl true)) ρ') (e2 : n ρ' = r) : eAn m n ρ = r := by
  simp [sSeq, sIf, sSet, sRet, sRetN, sExpr, sNil, sFor, sAsg, sSetIx, sPut, sAug, putV, eV, eC, sub, fz, b2, b1, e3, con, ali, toB, eT, tru, tNt, tAn, tO, eAn, eO, eNt, eIf, aC, aN, conL, aliL, eLst, eTup, eDct, oO, oI, eSl, pSl, eB, qAbs, qInt, qList, qTuple, pAdd, pSub, pMul, pDiv, pMod, pPow, pOrd, pEq, pNe, pEqB, pNeg, pIsN, pDx, int?, lst?, dct?, tup?, key?, getMu, putMu, getL, getD', mApp, mPop, mPopAt, mGet2, mIndex, gN, gC, gT, iSeq, run_range1, run_range2, iEnum1, iZip2, eCall, eCallI, kCall, kCallI, M.thr, run_setS, run_setF, run_setO, e, e2]
theorem and_f {m n : M RV} {ρ ρ' : VE} (e : m ρ = .ok (.d (.bl false)) ρ') : eAn m n ρ = .ok (.d (.bl false)) ρ' := by
  simp [sSeq, sIf, sSet, sRet, sRetN, sExpr, sNil, sFor, sAsg, sSetIx, sPut, sAug, putV, eV, eC, sub, fz, b2, b1, e3, con, ali, toB, eT, tru, tNt, tAn, tO, eAn, eO, eNt, eIf, aC, aN, conL, aliL, eLst, eTup, eDct, oO, oI, eSl, pSl, eB, qAbs, qInt, qList, qTuple, pAdd, pSub, pMul, pDiv, pMod, pPow, pOrd, pEq, pNe, pEqB, pNeg, pIsN, pDx, int?, lst?, dct?, tup?, key?, getMu, putMu, getL, getD', mApp, mPop, mPopAt, mGet2, mIndex, gN, gC, gT, iSeq, run_range1, run_range2, iEnum1, iZip2, eCall, eCallI, kCall, kCallI, M.thr, run_setS, run_setF, run_setO, e]
theorem iff_t {c : M Bool} {a b : M Fl} {ρ ρ' : VE} {r : R Fl} (e : c ρ = .ok true ρ') (e2 : a ρ' = r) : sIf c a b ρ = r := by
  simp [sSeq, sIf, sSet, sRet, sRetN, sExpr, sNil, sFor, sAsg, sSetIx, sPut, sAug, putV, eV, eC, sub, fz, b2, b1, e3, con, ali, toB, eT, tru, tNt, tAn, tO, eAn, eO, eNt, eIf, aC, aN, conL, aliL, eLst, eTup, eDct, oO, oI, eSl, pSl, eB, qAbs, qInt, qList, qTuple, pAdd, pSub, pMul, pDiv, pMod, pPow, pOrd, pEq, pNe, pEqB, pNeg, pIsN, pDx, int?, lst?, dct?, tup?, key?, getMu, putMu, getL, getD', mApp, mPop, mPopAt, mGet2, mIndex, gN, gC, gT, iSeq, run_range1, run_range2, iEnum1, iZip2, eCall, eCallI, kCall, kCallI, M.thr, run_setS, run_setF, run_setO, e, e2]
theorem iff_f {c : M Bool} {a b : M Fl} {ρ ρ' : VE} {r : R Fl} (e : c ρ = .ok false ρ') (e2 : b ρ' = r) : sIf c a b ρ = r := by
  simp [sSeq, sIf, sSet, sRet, sRetN, sExpr, sNil, sFor, sAsg, sSetIx, sPut, sAug, putV, eV, eC, sub, fz, b2, b1, e3, con, ali, toB, eT, tru, tNt, tAn, tO, eAn, eO, eNt, eIf, aC, aN, conL, aliL, eLst, eTup, eDct, oO, oI, eSl, pSl, eB, qAbs, qInt, qList, qTuple, pAdd, pSub, pMul, pDiv, pMod, pPow, pOrd, pEq, pNe, pEqB, pNeg, pIsN, pDx, int?, lst?, dct?, tup?, key?, getMu, putMu, getL, getD', mApp, mPop, mPopAt, mGet2, mIndex, gN, gC, gT, iSeq, run_range1, run_range2, iEnum1, iZip2, eCall, eCallI, kCall, kCallI, M.thr, run_setS, run_setF, run_setO, e, e2]
theorem ret_fr {m : M RV} {d : Dv} {ρ ρ' : VE} (e : m ρ = .ok (.fr d) ρ') : sRet m ρ = .ok (.rt (.fr d)) ρ' := by
  simp [sSeq, sIf, sSet, sRet, sRetN, sExpr, sNil, sFor, sAsg, sSetIx, sPut, sAug, putV, eV, eC, sub, fz, b2, b1, e3, con, ali, toB, eT, tru, tNt, tAn, tO, eAn, eO, eNt, eIf, aC, aN, conL, aliL, eLst, eTup, eDct, oO, oI, eSl, pSl, eB, qAbs, qInt, qList, qTuple, pAdd, pSub, pMul, pDiv, pMod, pPow, pOrd, pEq, pNe, pEqB, pNeg, pIsN, pDx, int?, lst?, dct?, tup?, key?, getMu, putMu, getL, getD', mApp, mPop, mPopAt, mGet2, mIndex, gN, gC, gT, iSeq, run_range1, run_range2, iEnum1, iZip2, eCall, eCallI, kCall, kCallI, M.thr, run_setS, run_setF, run_setO, e]
theorem bz_flat (l : List Bool) : (bz l).all flatD = true := by
  rw [List.all_eq_true]
  intro x hx
  obtain ⟨a, _, rfl⟩ := List.mem_map.mp hx
  rfl
theorem bz_any : ∀ (l : List Bool) (i : Nat), ((bz l).any fun d => eqD d (.bl false)) = !(fF l i).isNone
  | [], _ => rfl
  | false :: l, i => by simp [fF, eqD]
  | true :: l, i => by
    rw [bz_cons, List.any_cons, bz_any l (i + 1), fF]
    simp [eqD]
theorem pIn_bz (l : List Bool) (ρ : VE) : pIn true (.bl false) (.lst (bz l)) ρ = .ok (.d (.bl (fF l 0).isNone)) ρ := by
  simp [pIn, pInB, items?, bz_flat, flatD]
  rw [bz_any l 0]
  simp
theorem idx_bz : ∀ (l : List Bool) (i : Nat), fF l i = (idxD (bz l) (.bl false)).map (· + i)
  | [], _ => rfl
  | false :: l, i => by simp [fF, idxD, eqD]
  | true :: l, i => by
    rw [fF, idx_bz l (i + 1), bz_cons, idxD]
    have : eqD (.bl true) (.bl false) = false := rfl
    rw [this]
    simp only [Bool.false_eq_true, if_false, Option.map_map]
    congr 1
    funext x
    show x + (i + 1) = x + 1 + i
    omega
theorem idx_bz0 (l : List Bool) : idxD (bz l) (.bl false) = fF l 0 := by
  rw [idx_bz l 0]; simp
section
variable {ps : List Int} {t : Int}
theorem call2 {φ : List Sl → R RV} {i : Nat} {ρ : VE} {d : Dv} {z : Int} {rv : RV} {ρ0 : VE} (g : ρ[i]? = some (.val d)) (e2 : φ [.val d, .val (.int z)] = .ok rv ρ0) : eCall 2 φ (aC (sub (eV i)) (aC (sub (eC (.int z))) aN)) ρ = .ok rv ρ := by
  simp [sSeq, sIf, sSet, sRet, sRetN, sExpr, sNil, sFor, sAsg, sSetIx, sPut, sAug, putV, eV, eC, sub, fz, b2, b1, e3, con, ali, toB, eT, tru, tNt, tAn, tO, eAn, eO, eNt, eIf, aC, aN, conL, aliL, eLst, eTup, eDct, oO, oI, eSl, pSl, eB, qAbs, qInt, qList, qTuple, pAdd, pSub, pMul, pDiv, pMod, pPow, pOrd, pEq, pNe, pEqB, pNeg, pIsN, pDx, int?, lst?, dct?, tup?, key?, getMu, putMu, getL, getD', mApp, mPop, mPopAt, mGet2, mIndex, gN, gC, gT, iSeq, run_range1, run_range2, iEnum1, iZip2, eCall, eCallI, kCall, kCallI, M.thr, run_setS, run_setF, run_setO, e2, g]
theorem ixz {i : Nat} {ρ : VE} {l : Dv} {p : Int} (g : ρ[i]? = some (.val l)) (e2 : ∀ ρ, pIx l (.int 0) ρ = .ok (.d (.int p)) ρ) : b2 pIx (sub (eV i)) (sub (eC (.int 0))) ρ = .ok (.d (.int p)) ρ := by
  simp [sSeq, sIf, sSet, sRet, sRetN, sExpr, sNil, sFor, sAsg, sSetIx, sPut, sAug, putV, eV, eC, sub, fz, b2, b1, e3, con, ali, toB, eT, tru, tNt, tAn, tO, eAn, eO, eNt, eIf, aC, aN, conL, aliL, eLst, eTup, eDct, oO, oI, eSl, pSl, eB, qAbs, qInt, qList, qTuple, pAdd, pSub, pMul, pDiv, pMod, pPow, pOrd, pEq, pNe, pEqB, pNeg, pIsN, pDx, int?, lst?, dct?, tup?, key?, getMu, putMu, getL, getD', mApp, mPop, mPopAt, mGet2, mIndex, gN, gC, gT, iSeq, run_range1, run_range2, iEnum1, iZip2, eCall, eCallI, kCall, kCallI, M.thr, run_setS, run_setF, run_setO, e2, g]
theorem eqz {m : M RV} {ρ ρ' : VE} {p z : Int} (e : m ρ = .ok (.d (.int p)) ρ') : b2 pEq (sub m) (sub (eC (.int z))) ρ = .ok (.d (.bl (decide (p = z)))) ρ' := by
  simp [sSeq, sIf, sSet, sRet, sRetN, sExpr, sNil, sFor, sAsg, sSetIx, sPut, sAug, putV, eV, eC, sub, fz, b2, b1, e3, con, ali, toB, eT, tru, tNt, tAn, tO, eAn, eO, eNt, eIf, aC, aN, conL, aliL, eLst, eTup, eDct, oO, oI, eSl, pSl, eB, qAbs, qInt, qList, qTuple, pAdd, pSub, pMul, pDiv, pMod, pPow, pOrd, pEq, pNe, pEqB, pNeg, pIsN, pDx, int?, lst?, dct?, tup?, key?, getMu, putMu, getL, getD', mApp, mPop, mPopAt, mGet2, mIndex, gN, gC, gT, iSeq, run_range1, run_range2, iEnum1, iZip2, eCall, eCallI, kCall, kCallI, M.thr, run_setS, run_setF, run_setO, e]
theorem var {i : Nat} {ρ : VE} {d : Dv} (g : ρ[i]? = some (.val d)) : eV i ρ = .ok (.d d) ρ := by
  simp [sSeq, sIf, sSet, sRet, sRetN, sExpr, sNil, sFor, sAsg, sSetIx, sPut, sAug, putV, eV, eC, sub, fz, b2, b1, e3, con, ali, toB, eT, tru, tNt, tAn, tO, eAn, eO, eNt, eIf, aC, aN, conL, aliL, eLst, eTup, eDct, oO, oI, eSl, pSl, eB, qAbs, qInt, qList, qTuple, pAdd, pSub, pMul, pDiv, pMod, pPow, pOrd, pEq, pNe, pEqB, pNeg, pIsN, pDx, int?, lst?, dct?, tup?, key?, getMu, putMu, getL, getD', mApp, mPop, mPopAt, mGet2, mIndex, gN, gC, gT, iSeq, run_range1, run_range2, iEnum1, iZip2, eCall, eCallI, kCall, kCallI, M.thr, run_setS, run_setF, run_setO, g]
theorem isz {i : Nat} {ρ : VE} {p z : Int} {b : Bool} (g : ρ[i]? = some (.val (.int p))) (e : decide (p = z) = b) : toB (b2 pEq (sub (eV i)) (sub (eC (.int z)))) ρ = .ok b ρ := by
  subst e
  have := eqz (z := z) (var g)
  simp [sSeq, sIf, sSet, sRet, sRetN, sExpr, sNil, sFor, sAsg, sSetIx, sPut, sAug, putV, eV, eC, sub, fz, b2, b1, e3, con, ali, toB, eT, tru, tNt, tAn, tO, eAn, eO, eNt, eIf, aC, aN, conL, aliL, eLst, eTup, eDct, oO, oI, eSl, pSl, eB, qAbs, qInt, qList, qTuple, pAdd, pSub, pMul, pDiv, pMod, pPow, pOrd, pEq, pNe, pEqB, pNeg, pIsN, pDx, int?, lst?, dct?, tup?, key?, getMu, putMu, getL, getD', mApp, mPop, mPopAt, mGet2, mIndex, gN, gC, gT, iSeq, run_range1, run_range2, iEnum1, iZip2, eCall, eCallI, kCall, kCallI, M.thr, run_setS, run_setF, run_setO, g]
theorem inz {i : Nat} {ρ : VE} {l : Dv} {io : Bool} {b : Bool} (g : ρ[i]? = some (.mu io l)) (e : ∀ ρ, pIn true (.bl false) l ρ = .ok (.d (.bl b)) ρ) : b2 (pIn true) (sub (eC (.bl false))) (sub (eV i)) ρ = .ok (.d (.bl b)) ρ := by
  simp [sSeq, sIf, sSet, sRet, sRetN, sExpr, sNil, sFor, sAsg, sSetIx, sPut, sAug, putV, eV, eC, sub, fz, b2, b1, e3, con, ali, toB, eT, tru, tNt, tAn, tO, eAn, eO, eNt, eIf, aC, aN, conL, aliL, eLst, eTup, eDct, oO, oI, eSl, pSl, eB, qAbs, qInt, qList, qTuple, pAdd, pSub, pMul, pDiv, pMod, pPow, pOrd, pEq, pNe, pEqB, pNeg, pIsN, pDx, int?, lst?, dct?, tup?, key?, getMu, putMu, getL, getD', mApp, mPop, mPopAt, mGet2, mIndex, gN, gC, gT, iSeq, run_range1, run_range2, iEnum1, iZip2, eCall, eCallI, kCall, kCallI, M.thr, run_setS, run_setF, run_setO, g, e]
theorem nil_nx {ρ : VE} : sNil ρ = .ok .nx ρ := rfl
theorem due4 {w : Int} (hw : ¬ w = 4) (h : Good (.lst (iz ps)) ps) : ∃ p, ps.head? = some p ∧ m__law_due [.val (.int w), .val (.lst (iz ps)), .val (.int t)] =
    fin (R6__law_due [.val (.int w), .val (.lst (iz ps)), .val (.int t), .mu false (.lst []), .mu false (.lst (bz ((onG 0 [] ps).map (·.2)))), .no, .no, .val (.bl (astO ps).isNone), .no, .no]) := by
  rw [due_head h]
  obtain ⟨p, qs, rfl⟩ := List.exists_cons_of_ne_nil h.ne
  have h2 := h.l2
  obtain ⟨ρ1, e1⟩ := run__law_on h.sq (t := 0) (by omega) (by omega)
  have e1 : m__law_on [.val (.lst (iz (p :: qs))), .val (.int 0)] = .ok (.fr (.lst (bz ((onG 0 [] (p :: qs)).map (·.2))))) ρ1 := e1
  have e2 := ix_at h.sq (j := 0) (x := p) rfl
  have e2 : ∀ ρ, pIx (.lst (iz (p :: qs))) (.int 0) ρ = .ok (.d (.int p)) ρ := e2
  have e3 := pIn_bz ((onG 0 [] (p :: qs)).map (·.2))
  have ew : (astO (p :: qs)).isNone = (decide (p = 0) && (fF ((onG 0 [] (p :: qs)).map (·.2)) 0).isNone) := by
    unfold astO
    by_cases hp : p = 0
    · simp [hp]
    · simp [hp]
  rw [ew]
  generalize (onG 0 [] (p :: qs)).map (·.2) = bs at *
  generalize iz (p :: qs) = xs at *
  refine ⟨p, rfl, ?_⟩
  unfold R3__law_due
  rw [seq_nx (ρ' := [.val (.int w), .val (.lst xs), .val (.int t), .mu false (.lst []), .no, .no, .no, .no, .no, .no]) (iff_f (isz rfl (by simp [hw])) nil_nx)]
  unfold R4__law_due
  rw [seq_nx (ρ' := [.val (.int w), .val (.lst xs), .val (.int t), .mu false (.lst []), .mu false (.lst (bz bs)), .no, .no, .no, .no, .no]) (set_fr (call2 rfl e1) (by simp) rfl)]
  unfold R5__law_due
  rw [seq_nx (ρ' := [.val (.int w), .val (.lst xs), .val (.int t), .mu false (.lst []), .mu false (.lst (bz bs)), .no, .no, .val (.bl (decide (p = 0) && (fF bs 0).isNone)), .no, .no]) (by
    by_cases hp : p = 0
    · have := eqz (z := 0) (ixz (i := 1) (ρ := [.val (.int w), .val (.lst xs), .val (.int t), .mu false (.lst []), .mu false (.lst (bz bs)), .no, .no, .no, .no, .no]) rfl e2)
      rw [decide_eq_true hp] at this ⊢
      exact set_d (and_t this (inz rfl e3)) (by simp) rfl
    · have := eqz (z := 0) (ixz (i := 1) (ρ := [.val (.int w), .val (.lst xs), .val (.int t), .mu false (.lst []), .mu false (.lst (bz bs)), .no, .no, .no, .no, .no]) rfl e2)
      rw [decide_eq_false hp] at this ⊢
      exact set_d (and_f this) (by simp) rfl)]
theorem due0 (h : Good (.lst (iz ps)) ps) : ∃ ρ, m__law_due [.val (.int 0), .val (.lst (iz ps)), .val (.int t)] = .ok (.fr (.lst [.str "told", .bl (astO ps).isNone])) ρ := by
  obtain ⟨p, _, e⟩ := due4 (t := t) (w := 0) (by decide) h
  have q : 2 ≤ sizeLine := by decide
  rw [e]
  simp [R6__law_due, sSeq, sIf, sSet, sRet, sRetN, sExpr, sNil, sFor, sAsg, sSetIx, sPut, sAug, putV, eV, eC, sub, fz, b2, b1, e3, con, ali, toB, eT, tru, tNt, tAn, tO, eAn, eO, eNt, eIf, aC, aN, conL, aliL, eLst, eTup, eDct, oO, oI, eSl, pSl, eB, qAbs, qInt, qList, qTuple, pAdd, pSub, pMul, pDiv, pMod, pPow, pOrd, pEq, pNe, pEqB, pNeg, pIsN, pDx, int?, lst?, dct?, tup?, key?, getMu, putMu, getL, getD', mApp, mPop, mPopAt, mGet2, mIndex, gN, gC, gT, iSeq, run_range1, run_range2, iEnum1, iZip2, eCall, eCallI, kCall, kCallI, M.thr, run_setS, run_setF, run_setO, fin, q]
theorem due1 (h : Good (.lst (iz ps)) ps) : ∃ ρ, m__law_due [.val (.int 1), .val (.lst (iz ps)), .val (.int t)] = .ok (.fr (.lst [.str "told", .bl ((astO ps).isNone && strictG [] ps)])) ρ := by
  obtain ⟨p, _, e⟩ := due4 (t := t) (w := 1) (by decide) h
  have q : 2 ≤ sizeLine := by decide
  have h2 := h.l2
  obtain ⟨ρ, e2⟩ := run__law_strict (ps := ps) (by omega)
  rw [e]
  unfold R6__law_due
  rw [seq_nx (iff_f (isz rfl rfl) nil_nx)]
  unfold R7__law_due
  cases (astO ps).isNone with
  | true => exact ⟨_, by rw [seq_rt (iff_t (isz rfl rfl) (ret_fr (told q (and_t (var rfl) (call1 rfl e2)))))]; rfl⟩
  | false => exact ⟨_, by rw [seq_rt (iff_t (isz rfl rfl) (ret_fr (told q (and_f (var rfl)))))]; rfl⟩
theorem mn {i : Nat} {ρ : VE} {l : Dv} {p : Int} (g : ρ[i]? = some (.val l)) (e2 : ∀ ρ, qMin [l] ρ = .ok (.d (.int p)) ρ) : eB qMin (aC (sub (eV i)) aN) ρ = .ok (.d (.int p)) ρ := by
  simp [sSeq, sIf, sSet, sRet, sRetN, sExpr, sNil, sFor, sAsg, sSetIx, sPut, sAug, putV, eV, eC, sub, fz, b2, b1, e3, con, ali, toB, eT, tru, tNt, tAn, tO, eAn, eO, eNt, eIf, aC, aN, conL, aliL, eLst, eTup, eDct, oO, oI, eSl, pSl, eB, qAbs, qInt, qList, qTuple, pAdd, pSub, pMul, pDiv, pMod, pPow, pOrd, pEq, pNe, pEqB, pNeg, pIsN, pDx, int?, lst?, dct?, tup?, key?, getMu, putMu, getL, getD', mApp, mPop, mPopAt, mGet2, mIndex, gN, gC, gT, iSeq, run_range1, run_range2, iEnum1, iZip2, eCall, eCallI, kCall, kCallI, M.thr, run_setS, run_setF, run_setO, e2, g]
theorem gez {m : M RV} {ρ ρ' : VE} {p z : Int} (e : m ρ = .ok (.d (.int p)) ρ') : b2 (pOrd fun i j => decide (j ≤ i)) (sub m) (sub (eC (.int z))) ρ = .ok (.d (.bl (decide (z ≤ p)))) ρ' := by
  simp [sSeq, sIf, sSet, sRet, sRetN, sExpr, sNil, sFor, sAsg, sSetIx, sPut, sAug, putV, eV, eC, sub, fz, b2, b1, e3, con, ali, toB, eT, tru, tNt, tAn, tO, eAn, eO, eNt, eIf, aC, aN, conL, aliL, eLst, eTup, eDct, oO, oI, eSl, pSl, eB, qAbs, qInt, qList, qTuple, pAdd, pSub, pMul, pDiv, pMod, pPow, pOrd, pEq, pNe, pEqB, pNeg, pIsN, pDx, int?, lst?, dct?, tup?, key?, getMu, putMu, getL, getD', mApp, mPop, mPopAt, mGet2, mIndex, gN, gC, gT, iSeq, run_range1, run_range2, iEnum1, iZip2, eCall, eCallI, kCall, kCallI, M.thr, run_setS, run_setF, run_setO, e]
theorem nez {m : M RV} {ρ ρ' : VE} {p z : Int} (e : m ρ = .ok (.d (.int p)) ρ') : toB (b2 pNe (sub m) (sub (eC (.int z)))) ρ = .ok (!decide (p = z)) ρ' := by
  simp [sSeq, sIf, sSet, sRet, sRetN, sExpr, sNil, sFor, sAsg, sSetIx, sPut, sAug, putV, eV, eC, sub, fz, b2, b1, e3, con, ali, toB, eT, tru, tNt, tAn, tO, eAn, eO, eNt, eIf, aC, aN, conL, aliL, eLst, eTup, eDct, oO, oI, eSl, pSl, eB, qAbs, qInt, qList, qTuple, pAdd, pSub, pMul, pDiv, pMod, pPow, pOrd, pEq, pNe, pEqB, pNeg, pIsN, pDx, int?, lst?, dct?, tup?, key?, getMu, putMu, getL, getD', mApp, mPop, mPopAt, mGet2, mIndex, gN, gC, gT, iSeq, run_range1, run_range2, iEnum1, iZip2, eCall, eCallI, kCall, kCallI, M.thr, run_setS, run_setF, run_setO, e]
theorem ntv {i : Nat} {ρ : VE} {b : Bool} (g : ρ[i]? = some (.val (.bl b))) : tNt (eT (sub (eV i))) ρ = .ok (!b) ρ := by
  simp [sSeq, sIf, sSet, sRet, sRetN, sExpr, sNil, sFor, sAsg, sSetIx, sPut, sAug, putV, eV, eC, sub, fz, b2, b1, e3, con, ali, toB, eT, tru, tNt, tAn, tO, eAn, eO, eNt, eIf, aC, aN, conL, aliL, eLst, eTup, eDct, oO, oI, eSl, pSl, eB, qAbs, qInt, qList, qTuple, pAdd, pSub, pMul, pDiv, pMod, pPow, pOrd, pEq, pNe, pEqB, pNeg, pIsN, pDx, int?, lst?, dct?, tup?, key?, getMu, putMu, getL, getD', mApp, mPop, mPopAt, mGet2, mIndex, gN, gC, gT, iSeq, run_range1, run_range2, iEnum1, iZip2, eCall, eCallI, kCall, kCallI, M.thr, run_setS, run_setF, run_setO, g]
theorem root {m n : M RV} {x y : Dv} {ρ ρ1 ρ2 : VE} (q : 4 ≤ sizeLine) (e : m ρ = .ok (.d x) ρ1) (e2 : n ρ1 = .ok (.d y) ρ2) : eLst (aC (sub (eC (.str "root"))) (aC (sub m) (aC (sub n) (aC (sub (eC (.bl false))) aN)))) ρ = .ok (.fr (.lst [.str "root", x, y, .bl false])) ρ2 := by
  simp [sSeq, sIf, sSet, sRet, sRetN, sExpr, sNil, sFor, sAsg, sSetIx, sPut, sAug, putV, eV, eC, sub, fz, b2, b1, e3, con, ali, toB, eT, tru, tNt, tAn, tO, eAn, eO, eNt, eIf, aC, aN, conL, aliL, eLst, eTup, eDct, oO, oI, eSl, pSl, eB, qAbs, qInt, qList, qTuple, pAdd, pSub, pMul, pDiv, pMod, pPow, pOrd, pEq, pNe, pEqB, pNeg, pIsN, pDx, int?, lst?, dct?, tup?, key?, getMu, putMu, getL, getD', mApp, mPop, mPopAt, mGet2, mIndex, gN, gC, gT, iSeq, run_range1, run_range2, iEnum1, iZip2, eCall, eCallI, kCall, kCallI, M.thr, run_setS, run_setF, run_setO, e, e2, q]
theorem told_fr {m : M RV} {d : Dv} {ρ ρ' : VE} (q : 2 ≤ sizeLine) (e : m ρ = .ok (.fr d) ρ') : eLst (aC (sub (eC (.str "told"))) (aC (sub m) aN)) ρ = .ok (.fr (.lst [.str "told", d])) ρ' := by
  simp [sSeq, sIf, sSet, sRet, sRetN, sExpr, sNil, sFor, sAsg, sSetIx, sPut, sAug, putV, eV, eC, sub, fz, b2, b1, e3, con, ali, toB, eT, tru, tNt, tAn, tO, eAn, eO, eNt, eIf, aC, aN, conL, aliL, eLst, eTup, eDct, oO, oI, eSl, pSl, eB, qAbs, qInt, qList, qTuple, pAdd, pSub, pMul, pDiv, pMod, pPow, pOrd, pEq, pNe, pEqB, pNeg, pIsN, pDx, int?, lst?, dct?, tup?, key?, getMu, putMu, getL, getD', mApp, mPop, mPopAt, mGet2, mIndex, gN, gC, gT, iSeq, run_range1, run_range2, iEnum1, iZip2, eCall, eCallI, kCall, kCallI, M.thr, run_setS, run_setF, run_setO, e, q]
theorem due2 (h : Good (.lst (iz ps)) ps) : ∃ ρ, m__law_due [.val (.int 2), .val (.lst (iz ps)), .val (.int t)] = .ok (.fr (.lst [.str "told", .bl ((astO ps).isNone && decide (0 ≤ lmin ps))])) ρ := by
  obtain ⟨p, _, e⟩ := due4 (t := t) (w := 2) (by decide) h
  have q : 2 ≤ sizeLine := by decide
  have e2 := qMin_seq h.sq h.ne
  rw [e]
  unfold R6__law_due
  rw [seq_nx (iff_f (isz rfl rfl) nil_nx)]
  unfold R7__law_due
  rw [seq_nx (iff_f (isz rfl rfl) nil_nx)]
  unfold R8__law_due
  cases (astO ps).isNone with
  | true => exact ⟨_, by rw [seq_rt (iff_t (isz rfl rfl) (ret_fr (told q (and_t (var rfl) (gez (mn rfl e2))))))]; rfl⟩
  | false => exact ⟨_, by rw [seq_rt (iff_t (isz rfl rfl) (ret_fr (told q (and_f (var rfl)))))]; rfl⟩
theorem due3 (h : Good (.lst (iz ps)) ps) (ha : astO ps = none) : ∃ ρ, m__law_due [.val (.int 3), .val (.lst (iz ps)), .val (.int t)] = .ok (.fr (.lst [.str "told", .lst (iz ((lvG [] ps).map (·.2)))])) ρ := by
  obtain ⟨p, hp, e⟩ := due4 (t := t) (w := 3) (by decide) h
  have q : 2 ≤ sizeLine := by decide
  have h2 := h.l2
  obtain ⟨ρ, e2⟩ := run__law_levels h.sq h.ne (by omega)
  have e3 := ix_at h.sq (j := 0) (x := p) (by rw [← hp, List.head?_eq_getElem?])
  have e3 : ∀ ρ, pIx (.lst (iz ps)) (.int 0) ρ = .ok (.d (.int p)) ρ := e3
  have hp0 : p = 0 := by
    unfold astO at ha
    by_cases z : p = 0
    · exact z
    · rw [if_neg (by rw [hp]; intro q; exact z (Option.some.inj q))] at ha; cases ha
  rw [e, ha]
  unfold R6__law_due
  rw [seq_nx (iff_f (isz rfl rfl) nil_nx)]
  unfold R7__law_due
  rw [seq_nx (iff_f (isz rfl rfl) nil_nx)]
  unfold R8__law_due
  rw [seq_nx (iff_f (isz rfl rfl) nil_nx)]
  unfold R9__law_due
  have c := nez (z := 0) (ixz (i := 1) (ρ := [.val (.int 3), .val (.lst (iz ps)), .val (.int t), .mu false (.lst []), .mu false (.lst (bz ((onG 0 [] ps).map (·.2)))), .no, .no, .val (.bl (none : Option Nat).isNone), .no, .no]) rfl e3)
  rw [decide_eq_true hp0] at c
  rw [seq_nx (iff_f c nil_nx)]
  unfold R10__law_due
  rw [seq_nx (iff_f (ntv (b := true) rfl) nil_nx)]
  unfold R11__law_due
  exact ⟨_, by rw [ret_fr (told_fr q (call1 rfl e2))]; rfl⟩
theorem idxm {i j : Nat} {ρ : VE} {l : List Bool} (g : ρ[i]? = some (.mu false (.lst (bz l)))) (e : fF l 0 = some j) : mIndex (sub (eV i)) (sub (eC (.bl false))) ρ = .ok (.d (.int j)) ρ := by
  have e1 := idx_bz0 l
  rw [e] at e1
  have e2 := bz_flat l
  generalize bz l = xs at *
  simp [sSeq, sIf, sSet, sRet, sRetN, sExpr, sNil, sFor, sAsg, sSetIx, sPut, sAug, putV, eV, eC, sub, fz, b2, b1, e3, con, ali, toB, eT, tru, tNt, tAn, tO, eAn, eO, eNt, eIf, aC, aN, conL, aliL, eLst, eTup, eDct, oO, oI, eSl, pSl, eB, qAbs, qInt, qList, qTuple, pAdd, pSub, pMul, pDiv, pMod, pPow, pOrd, pEq, pNe, pEqB, pNeg, pIsN, pDx, int?, lst?, dct?, tup?, key?, getMu, putMu, getL, getD', mApp, mPop, mPopAt, mGet2, mIndex, gN, gC, gT, iSeq, run_range1, run_range2, iEnum1, iZip2, eCall, eCallI, kCall, kCallI, M.thr, run_setS, run_setF, run_setO, e1, g, e2, flatD]
theorem ixm {i : Nat} {m : M RV} {ρ : VE} {l : Dv} {p z : Int} (g : ρ[i]? = some (.val l)) (e : m ρ = .ok (.d (.int z)) ρ) (e2 : ∀ ρ, pIx l (.int z) ρ = .ok (.d (.int p)) ρ) : b2 pIx (sub (eV i)) (sub m) ρ = .ok (.d (.int p)) ρ := by
  simp [sSeq, sIf, sSet, sRet, sRetN, sExpr, sNil, sFor, sAsg, sSetIx, sPut, sAug, putV, eV, eC, sub, fz, b2, b1, e3, con, ali, toB, eT, tru, tNt, tAn, tO, eAn, eO, eNt, eIf, aC, aN, conL, aliL, eLst, eTup, eDct, oO, oI, eSl, pSl, eB, qAbs, qInt, qList, qTuple, pAdd, pSub, pMul, pDiv, pMod, pPow, pOrd, pEq, pNe, pEqB, pNeg, pIsN, pDx, int?, lst?, dct?, tup?, key?, getMu, putMu, getL, getD', mApp, mPop, mPopAt, mGet2, mIndex, gN, gC, gT, iSeq, run_range1, run_range2, iEnum1, iZip2, eCall, eCallI, kCall, kCallI, M.thr, run_setS, run_setF, run_setO, e2, g, e]
theorem cst {d : Dv} {ρ : VE} : eC d ρ = .ok (.d d) ρ := by
  simp [sSeq, sIf, sSet, sRet, sRetN, sExpr, sNil, sFor, sAsg, sSetIx, sPut, sAug, putV, eV, eC, sub, fz, b2, b1, e3, con, ali, toB, eT, tru, tNt, tAn, tO, eAn, eO, eNt, eIf, aC, aN, conL, aliL, eLst, eTup, eDct, oO, oI, eSl, pSl, eB, qAbs, qInt, qList, qTuple, pAdd, pSub, pMul, pDiv, pMod, pPow, pOrd, pEq, pNe, pEqB, pNeg, pIsN, pDx, int?, lst?, dct?, tup?, key?, getMu, putMu, getL, getD', mApp, mPop, mPopAt, mGet2, mIndex, gN, gC, gT, iSeq, run_range1, run_range2, iEnum1, iZip2, eCall, eCallI, kCall, kCallI, M.thr, run_setS, run_setF, run_setO]
theorem due3r (h : Good (.lst (iz ps)) ps) {i : Nat} (ha : astO ps = some i) (hi : i < ps.length) : ∃ p, ps[i]? = some p ∧ ∃ ρ, m__law_due [.val (.int 3), .val (.lst (iz ps)), .val (.int t)] = .ok (.fr (.lst [.str "root", .int i, .int p, .bl false])) ρ := by
  obtain ⟨p, hp, e⟩ := due4 (t := t) (w := 3) (by decide) h
  have q : 4 ≤ sizeLine := by decide
  have e3 := ix_at h.sq (j := 0) (x := p) (by rw [← hp, List.head?_eq_getElem?])
  have e3 : ∀ ρ, pIx (.lst (iz ps)) (.int 0) ρ = .ok (.d (.int p)) ρ := e3
  have e4 := ix_at h.sq (j := i) (x := ps[i]) (by rw [List.getElem?_eq_getElem hi])
  rw [e, ha]
  have c := nez (z := 0) (ixz (i := 1) (ρ := [.val (.int 3), .val (.lst (iz ps)), .val (.int t), .mu false (.lst []), .mu false (.lst (bz ((onG 0 [] ps).map (·.2)))), .no, .no, .val (.bl (some i).isNone), .no, .no]) rfl e3)
  unfold R6__law_due
  rw [seq_nx (iff_f (isz rfl rfl) nil_nx)]
  unfold R7__law_due
  rw [seq_nx (iff_f (isz rfl rfl) nil_nx)]
  unfold R8__law_due
  rw [seq_nx (iff_f (isz rfl rfl) nil_nx)]
  unfold R9__law_due
  refine ⟨ps[i], List.getElem?_eq_getElem hi, ?_⟩
  by_cases hp0 : p = 0
  · rw [decide_eq_true hp0] at c
    rw [seq_nx (iff_f c nil_nx)]
    have hf : fF ((onG 0 [] ps).map (·.2)) 0 = some i := by
      unfold astO at ha
      rw [if_pos (by rw [hp, hp0])] at ha
      exact ha
    unfold R10__law_due
    rw [seq_rt (iff_t (ntv (b := false) rfl) (ret_fr (root q (idxm rfl hf) (ixm rfl (idxm rfl hf) e4))))]
    exact ⟨_, rfl⟩
  · rw [decide_eq_false hp0] at c
    have hi0 : i = 0 := by
      unfold astO at ha
      rw [if_neg (by rw [hp]; intro q; exact hp0 (Option.some.inj q))] at ha
      exact (Option.some.inj ha).symm
    subst hi0
    have e5 : ps[0] = p := by
      rw [List.head?_eq_getElem?, List.getElem?_eq_getElem hi] at hp
      exact Option.some.inj hp
    rw [e5]
    rw [seq_rt (iff_t c (ret_fr (root q cst (ixz rfl e3))))]
    exact ⟨_, rfl⟩
end
end K42
end
section
set_option Elab.async false
set_option linter.all false
set_option maxRecDepth 100000
set_option maxHeartbeats 4000000
namespace K42
open PySem L2 P0

theorem or_t {m n : M Bool} {ρ ρ' : VE} (e : m ρ = .ok true ρ') : tO m n ρ = .ok true ρ' := by
  simp [sSeq, sIf, sSet, sRet, sRetN, sExpr, sNil, sFor, sAsg, sSetIx, sPut, sAug, putV, eV, eC, sub, fz, b2, b1, e3, con, ali, toB, eT, tru, tNt, tAn, tO, eAn, eO, eNt, eIf, aC, aN, conL, aliL, eLst, eTup, eDct, oO, oI, eSl, pSl, eB, qAbs, qInt, qList, qTuple, pAdd, pSub, pMul, pDiv, pMod, pPow, pOrd, pEq, pNe, pEqB, pNeg, pIsN, pDx, int?, lst?, dct?, tup?, key?, getMu, putMu, getL, getD', mApp, mPop, mPopAt, mGet2, mIndex, gN, gC, gT, iSeq, run_range1, run_range2, iEnum1, iZip2, eCall, eCallI, kCall, kCallI, M.thr, run_setS, run_setF, run_setO, e]
theorem or_f {m n : M Bool} {ρ ρ' : VE} {r : R Bool} (e : m ρ = .ok false ρ') (e2 : n ρ' = r) : tO m n ρ = r := by
  simp [sSeq, sIf, sSet, sRet, sRetN, sExpr, sNil, sFor, sAsg, sSetIx, sPut, sAug, putV, eV, eC, sub, fz, b2, b1, e3, con, ali, toB, eT, tru, tNt, tAn, tO, eAn, eO, eNt, eIf, aC, aN, conL, aliL, eLst, eTup, eDct, oO, oI, eSl, pSl, eB, qAbs, qInt, qList, qTuple, pAdd, pSub, pMul, pDiv, pMod, pPow, pOrd, pEq, pNe, pEqB, pNeg, pIsN, pDx, int?, lst?, dct?, tup?, key?, getMu, putMu, getL, getD', mApp, mPop, mPopAt, mGet2, mIndex, gN, gC, gT, iSeq, run_range1, run_range2, iEnum1, iZip2, eCall, eCallI, kCall, kCallI, M.thr, run_setS, run_setF, run_setO, e, e2]
theorem ltz {i : Nat} {ρ : VE} {p z : Int} {b : Bool} (g : ρ[i]? = some (.val (.int p))) (e : decide (p < z) = b) : toB (b2 (pOrd fun i j => decide (i < j)) (sub (eV i)) (sub (eC (.int z)))) ρ = .ok b ρ := by
  subst e
  simp [sSeq, sIf, sSet, sRet, sRetN, sExpr, sNil, sFor, sAsg, sSetIx, sPut, sAug, putV, eV, eC, sub, fz, b2, b1, e3, con, ali, toB, eT, tru, tNt, tAn, tO, eAn, eO, eNt, eIf, aC, aN, conL, aliL, eLst, eTup, eDct, oO, oI, eSl, pSl, eB, qAbs, qInt, qList, qTuple, pAdd, pSub, pMul, pDiv, pMod, pPow, pOrd, pEq, pNe, pEqB, pNeg, pIsN, pDx, int?, lst?, dct?, tup?, key?, getMu, putMu, getL, getD', mApp, mPop, mPopAt, mGet2, mIndex, gN, gC, gT, iSeq, run_range1, run_range2, iEnum1, iZip2, eCall, eCallI, kCall, kCallI, M.thr, run_setS, run_setF, run_setO, g]
theorem len {i : Nat} {ρ : VE} {l : Dv} {n : Int} (g : ρ[i]? = some (.val l)) (e : ∀ ρ, qLen [l] ρ = .ok (.d (.int n)) ρ) : eB qLen (aC (sub (eV i)) aN) ρ = .ok (.d (.int n)) ρ := by
  simp [sSeq, sIf, sSet, sRet, sRetN, sExpr, sNil, sFor, sAsg, sSetIx, sPut, sAug, putV, eV, eC, sub, fz, b2, b1, e3, con, ali, toB, eT, tru, tNt, tAn, tO, eAn, eO, eNt, eIf, aC, aN, conL, aliL, eLst, eTup, eDct, oO, oI, eSl, pSl, eB, qAbs, qInt, qList, qTuple, pAdd, pSub, pMul, pDiv, pMod, pPow, pOrd, pEq, pNe, pEqB, pNeg, pIsN, pIn, pDx, int?, lst?, dct?, tup?, key?, getMu, putMu, getL, getD', mApp, mPop, mPopAt, mGet2, mIndex, gN, gC, gT, iSeq, run_range1, run_range2, iEnum1, iZip2, eCall, eCallI, kCall, kCallI, M.thr, run_setS, run_setF, run_setO, g, e]
theorem geb {i : Nat} {m : M RV} {ρ : VE} {p n : Int} {b : Bool} (g : ρ[i]? = some (.val (.int p))) (e : m ρ = .ok (.d (.int n)) ρ) (h : decide (n ≤ p) = b) : toB (b2 (pOrd fun i j => decide (j ≤ i)) (sub (eV i)) (sub m)) ρ = .ok b ρ := by
  subst h
  simp [sSeq, sIf, sSet, sRet, sRetN, sExpr, sNil, sFor, sAsg, sSetIx, sPut, sAug, putV, eV, eC, sub, fz, b2, b1, e3, con, ali, toB, eT, tru, tNt, tAn, tO, eAn, eO, eNt, eIf, aC, aN, conL, aliL, eLst, eTup, eDct, oO, oI, eSl, pSl, eB, qAbs, qInt, qList, qTuple, pAdd, pSub, pMul, pDiv, pMod, pPow, pOrd, pEq, pNe, pEqB, pNeg, pIsN, pDx, int?, lst?, dct?, tup?, key?, getMu, putMu, getL, getD', mApp, mPop, mPopAt, mGet2, mIndex, gN, gC, gT, iSeq, run_range1, run_range2, iEnum1, iZip2, eCall, eCallI, kCall, kCallI, M.thr, run_setS, run_setF, run_setO, g, e]
theorem three {s : Str} {i : Nat} {ρ : VE} {d : Dv} (q : 3 ≤ sizeLine) (g : ρ[i]? = some (.val d)) : eLst (aC (sub (eC (.str s))) (aC (sub (eV i)) (aC (sub (eC (.bl false))) aN))) ρ = .ok (.fr (.lst [.str s, d, .bl false])) ρ := by
  simp [sSeq, sIf, sSet, sRet, sRetN, sExpr, sNil, sFor, sAsg, sSetIx, sPut, sAug, putV, eV, eC, sub, fz, b2, b1, e3, con, ali, toB, eT, tru, tNt, tAn, tO, eAn, eO, eNt, eIf, aC, aN, conL, aliL, eLst, eTup, eDct, oO, oI, eSl, pSl, eB, qAbs, qInt, qList, qTuple, pAdd, pSub, pMul, pDiv, pMod, pPow, pOrd, pEq, pNe, pEqB, pNeg, pIsN, pDx, int?, lst?, dct?, tup?, key?, getMu, putMu, getL, getD', mApp, mPop, mPopAt, mGet2, mIndex, gN, gC, gT, iSeq, run_range1, run_range2, iEnum1, iZip2, eCall, eCallI, kCall, kCallI, M.thr, run_setS, run_setF, run_setO, g, q]
section
variable {ps : List Int} {t : Int}
theorem due4n (h : Good (.lst (iz ps)) ps) (ht : t < 0 ∨ (ps.length : Int) ≤ t) : ∃ ρ, m__law_due [.val (.int 4), .val (.lst (iz ps)), .val (.int t)] = .ok (.fr (.lst [.str "number", .int t, .bl false])) ρ := by
  rw [due_head h]
  have q : 3 ≤ sizeLine := by decide
  have e := h.sq.len
  unfold R3__law_due
  by_cases h0 : t < 0
  · rw [seq_rt (iff_t (isz rfl rfl) (seq_rt (iff_t (or_t (ltz rfl (decide_eq_true h0))) (ret_fr (three q rfl)))))]
    exact ⟨_, rfl⟩
  · have h1 : (ps.length : Int) ≤ t := by omega
    rw [seq_rt (iff_t (isz rfl rfl) (seq_rt (iff_t (or_f (ltz rfl (decide_eq_false h0)) (geb rfl (len rfl e) (decide_eq_true h1))) (ret_fr (three q rfl)))))]
    exact ⟨_, rfl⟩
end
theorem range_pick (b : Bool) : ∀ acc : List (Int × Bool), ((List.range acc.length).filter fun i => (acc[i]?.map (·.2)) == some b).map (fun i => (acc[i]?.map (·.1)).getD 0) = pick b acc
  | [] => rfl
  | q :: t => by
    have ih := range_pick b t
    rw [List.length_cons, List.range_succ_eq_map, List.filter_cons, List.filter_map]
    have c1 : (fun i => ((q :: t)[i]?.map (·.2)) == some b) ∘ Nat.succ = fun i => (t[i]?.map (·.2)) == some b := by
      funext i; simp
    rw [c1]
    have c2 : ∀ l : List Nat, (l.map Nat.succ).map (fun i => ((q :: t)[i]?.map (·.1)).getD 0) = l.map fun i => (t[i]?.map (·.1)).getD 0 := by
      intro l; simp
    unfold pick at ih ⊢
    rw [List.filter_cons]
    by_cases hb : (q.2 == b) = true
    · have : (((q :: t)[0]?.map (·.2)) == some b) = true := by simpa using hb
      rw [if_pos this, if_pos hb, List.map_cons, c2, ih]
      rfl
    · have : ¬ (((q :: t)[0]?.map (·.2)) == some b) = true := by simpa using hb
      rw [if_neg this, if_neg hb, c2, ih]
def fP (b : Bool) (acc : List (Int × Bool)) : Dv → Bool
  | .int k => (acc[k.toNat]?.map (·.2)) == some b
  | _ => false
def gP (acc : List (Int × Bool)) : Dv → Dv
  | .int k => .int ((acc[k.toNat]?.map (·.1)).getD 0)
  | d => d
theorem rng_pick (b : Bool) (acc : List (Int × Bool)) : ((rng 0 acc.length).filter (fP b acc)).map (gP acc) = iz (pick b acc) := by
  rw [← range_pick]
  unfold rng iz
  rw [List.filter_map, List.map_map, List.map_map]
  have c1 : fP b acc ∘ (fun i : Nat => Dv.int (0 + (i : Int))) = fun i => (acc[i]?.map (·.2)) == some b := by
    funext i
    show (acc[(0 + (i : Int)).toNat]?.map (·.2) == some b) = _
    rw [show (0 + (i : Int)).toNat = i by omega]
  rw [c1]
  congr 1
  funext i
  show Dv.int ((acc[(0 + (i : Int)).toNat]?.map (·.1)).getD 0) = _
  rw [show (0 + (i : Int)).toNat = i by omega]
  rfl
theorem pick_comp {b : Bool} {acc : List (Int × Bool)} {it : M (List Dv)} {mt : M Bool} {me : M AV} {a0 a1 a2 a3 a4 a5 a6 a7 a8 : Sl}
    (hi : it [a0, a1, a2, a3, a4, a5, a6, a7, a8, .no] = .ok (rng 0 acc.length) [a0, a1, a2, a3, a4, a5, a6, a7, a8, .no])
    (ht : ∀ (k : Nat) (h : k < acc.length), mt [a0, a1, a2, a3, a4, a5, a6, a7, a8, .val (.int k)] = .ok (acc[k].2 == b) [a0, a1, a2, a3, a4, a5, a6, a7, a8, .val (.int k)])
    (he : ∀ (k : Nat) (h : k < acc.length), me [a0, a1, a2, a3, a4, a5, a6, a7, a8, .val (.int k)] = .ok (.d (.int acc[k].1)) [a0, a1, a2, a3, a4, a5, a6, a7, a8, .val (.int k)])
    (hl : acc.length < 1000) :
    eComp [9] it (setS 9) mt me [a0, a1, a2, a3, a4, a5, a6, a7, a8, .no] = .ok (.fr (.lst (iz (pick b acc)))) [a0, a1, a2, a3, a4, a5, a6, a7, a8, .no] := by
  have c := compL_gen (vs := [9]) (mg := setS 9) (mt := mt) (me := me) (ρ0 := [a0, a1, a2, a3, a4, a5, a6, a7, a8, .no]) (fP b acc) (gP acc)
    (fun x => [a0, a1, a2, a3, a4, a5, a6, a7, a8, .val x]) (rng 0 acc.length) [] [a0, a1, a2, a3, a4, a5, a6, a7, a8, .no] rfl rfl (fun x hx => by
      obtain ⟨k, hk, rfl⟩ := List.mem_map.mp hx
      have hk := List.mem_range.mp hk
      have z : (0 + (k : Int)) = k := by omega
      rw [z]
      refine ⟨rfl, ?_, fun _ => ?_, rfl, rfl⟩
      · rw [ht k hk]
        have : fP b acc (.int k) = (acc[k].2 == b) := by
          show (acc[(k : Int).toNat]?.map (·.2) == some b) = _
          rw [Int.toNat_natCast, List.getElem?_eq_getElem hk]
          rfl
        rw [this]
      · rw [he k hk]
        have : gP acc (.int k) = .int acc[k].1 := by
          show Dv.int ((acc[(k : Int).toNat]?.map (·.1)).getD 0) = _
          rw [Int.toNat_natCast, List.getElem?_eq_getElem hk]
          rfl
        rw [this]) (by simp [rng]; exact Nat.lt_of_lt_of_le hl (by decide))
  rw [rng_pick] at c
  unfold eComp
  rw [run_bind, hi]
  simp only [run_bind]
  unfold noX
  rw [c]
  rfl
theorem rg1n {i : Nat} {ρ : VE} {l : Dv} {n : Nat} (hn : n ≤ 1000) (g : ρ[i]? = some (.val l)) (e : ∀ ρ, qLen [l] ρ = .ok (.d (.int n)) ρ) : iRange1 (aC (sub (eB qLen (aC (sub (eV i)) aN))) aN) ρ = .ok (rng 0 n) ρ := by
  have g1 := rg1_ok (j := n) (r62n (by omega))
  rw [Int.toNat_natCast] at g1
  generalize (n : Int) = z at *
  simp [sSeq, sIf, sSet, sRet, sRetN, sExpr, sNil, sFor, sAsg, sSetIx, sPut, sAug, putV, eV, eC, sub, fz, b2, b1, e3, con, ali, toB, eT, tru, tNt, tAn, tO, eAn, eO, eNt, eIf, aC, aN, conL, aliL, eLst, eTup, eDct, oO, oI, eSl, pSl, eB, qAbs, qInt, qList, qTuple, pAdd, pSub, pMul, pDiv, pMod, pPow, pOrd, pEq, pNe, pEqB, pNeg, pIsN, pIn, pDx, int?, lst?, dct?, tup?, key?, getMu, putMu, getL, getD', mApp, mPop, mPopAt, mGet2, mIndex, gN, gC, gT, iSeq, run_range1, run_range2, iEnum1, iZip2, eCall, eCallI, kCall, kCallI, M.thr, run_setS, run_setF, run_setO, g, e, ints?, g1]
theorem ixb {i j : Nat} {ρ : VE} {l : Dv} {b : Bool} {z : Int} (g : ρ[i]? = some (.mu false l)) (g2 : ρ[j]? = some (.val (.int z))) (e2 : ∀ ρ, pIx l (.int z) ρ = .ok (.d (.bl b)) ρ) : b2 pIx (sub (eV i)) (sub (eV j)) ρ = .ok (.d (.bl b)) ρ := by
  simp [sSeq, sIf, sSet, sRet, sRetN, sExpr, sNil, sFor, sAsg, sSetIx, sPut, sAug, putV, eV, eC, sub, fz, b2, b1, e3, con, ali, toB, eT, tru, tNt, tAn, tO, eAn, eO, eNt, eIf, aC, aN, conL, aliL, eLst, eTup, eDct, oO, oI, eSl, pSl, eB, qAbs, qInt, qList, qTuple, pAdd, pSub, pMul, pDiv, pMod, pPow, pOrd, pEq, pNe, pEqB, pNeg, pIsN, pDx, int?, lst?, dct?, tup?, key?, getMu, putMu, getL, getD', mApp, mPop, mPopAt, mGet2, mIndex, gN, gC, gT, iSeq, run_range1, run_range2, iEnum1, iZip2, eCall, eCallI, kCall, kCallI, M.thr, run_setS, run_setF, run_setO, e2, g, g2]
theorem ixv {i j : Nat} {ρ : VE} {l : Dv} {p z : Int} (g : ρ[i]? = some (.val l)) (g2 : ρ[j]? = some (.val (.int z))) (e2 : ∀ ρ, pIx l (.int z) ρ = .ok (.d (.int p)) ρ) : b2 pIx (sub (eV i)) (sub (eV j)) ρ = .ok (.d (.int p)) ρ := by
  simp [sSeq, sIf, sSet, sRet, sRetN, sExpr, sNil, sFor, sAsg, sSetIx, sPut, sAug, putV, eV, eC, sub, fz, b2, b1, e3, con, ali, toB, eT, tru, tNt, tAn, tO, eAn, eO, eNt, eIf, aC, aN, conL, aliL, eLst, eTup, eDct, oO, oI, eSl, pSl, eB, qAbs, qInt, qList, qTuple, pAdd, pSub, pMul, pDiv, pMod, pPow, pOrd, pEq, pNe, pEqB, pNeg, pIsN, pDx, int?, lst?, dct?, tup?, key?, getMu, putMu, getL, getD', mApp, mPop, mPopAt, mGet2, mIndex, gN, gC, gT, iSeq, run_range1, run_range2, iEnum1, iZip2, eCall, eCallI, kCall, kCallI, M.thr, run_setS, run_setF, run_setO, e2, g, g2]
theorem tb {m : M RV} {ρ ρ' : VE} {b : Bool} (e : m ρ = .ok (.d (.bl b)) ρ') : eT (sub m) ρ = .ok b ρ' := by
  simp [sSeq, sIf, sSet, sRet, sRetN, sExpr, sNil, sFor, sAsg, sSetIx, sPut, sAug, putV, eV, eC, sub, fz, b2, b1, e3, con, ali, toB, eT, tru, tNt, tAn, tO, eAn, eO, eNt, eIf, aC, aN, conL, aliL, eLst, eTup, eDct, oO, oI, eSl, pSl, eB, qAbs, qInt, qList, qTuple, pAdd, pSub, pMul, pDiv, pMod, pPow, pOrd, pEq, pNe, pEqB, pNeg, pIsN, pDx, int?, lst?, dct?, tup?, key?, getMu, putMu, getL, getD', mApp, mPop, mPopAt, mGet2, mIndex, gN, gC, gT, iSeq, run_range1, run_range2, iEnum1, iZip2, eCall, eCallI, kCall, kCallI, M.thr, run_setS, run_setF, run_setO, e]
theorem ntb {m : M RV} {ρ ρ' : VE} {b : Bool} (e : m ρ = .ok (.d (.bl b)) ρ') : tNt (eT (sub m)) ρ = .ok (!b) ρ' := by
  simp [sSeq, sIf, sSet, sRet, sRetN, sExpr, sNil, sFor, sAsg, sSetIx, sPut, sAug, putV, eV, eC, sub, fz, b2, b1, e3, con, ali, toB, eT, tru, tNt, tAn, tO, eAn, eO, eNt, eIf, aC, aN, conL, aliL, eLst, eTup, eDct, oO, oI, eSl, pSl, eB, qAbs, qInt, qList, qTuple, pAdd, pSub, pMul, pDiv, pMod, pPow, pOrd, pEq, pNe, pEqB, pNeg, pIsN, pDx, int?, lst?, dct?, tup?, key?, getMu, putMu, getL, getD', mApp, mPop, mPopAt, mGet2, mIndex, gN, gC, gT, iSeq, run_range1, run_range2, iEnum1, iZip2, eCall, eCallI, kCall, kCallI, M.thr, run_setS, run_setF, run_setO, e]
theorem subd {m : M RV} {ρ ρ' : VE} {d : Dv} (e : m ρ = .ok (.d d) ρ') : sub m ρ = .ok (.d d) ρ' := by
  simp [sSeq, sIf, sSet, sRet, sRetN, sExpr, sNil, sFor, sAsg, sSetIx, sPut, sAug, putV, eV, eC, sub, fz, b2, b1, e3, con, ali, toB, eT, tru, tNt, tAn, tO, eAn, eO, eNt, eIf, aC, aN, conL, aliL, eLst, eTup, eDct, oO, oI, eSl, pSl, eB, qAbs, qInt, qList, qTuple, pAdd, pSub, pMul, pDiv, pMod, pPow, pOrd, pEq, pNe, pEqB, pNeg, pIsN, pDx, int?, lst?, dct?, tup?, key?, getMu, putMu, getL, getD', mApp, mPop, mPopAt, mGet2, mIndex, gN, gC, gT, iSeq, run_range1, run_range2, iEnum1, iZip2, eCall, eCallI, kCall, kCallI, M.thr, run_setS, run_setF, run_setO, e]
theorem ix_bz (l : List Bool) {j : Nat} (hj : j < l.length) (ρ : VE) : pIx (.lst (bz l)) (.int (j : Int)) ρ = .ok (.d (.bl l[j])) ρ := by
  have e3 : atI (bz l) (j : Int) = some (.bl l[j]) := by
    rw [atI_bz, atI_at hj]; rfl
  simp [pIx, items?, e3]
theorem call2v {φ : List Sl → R RV} {i j : Nat} {ρ : VE} {d d' : Dv} {rv : RV} {ρ0 : VE} (g : ρ[i]? = some (.val d)) (g' : ρ[j]? = some (.val d')) (e2 : φ [.val d, .val d'] = .ok rv ρ0) : eCall 2 φ (aC (sub (eV i)) (aC (sub (eV j)) aN)) ρ = .ok rv ρ := by
  simp [sSeq, sIf, sSet, sRet, sRetN, sExpr, sNil, sFor, sAsg, sSetIx, sPut, sAug, putV, eV, eC, sub, fz, b2, b1, e3, con, ali, toB, eT, tru, tNt, tAn, tO, eAn, eO, eNt, eIf, aC, aN, conL, aliL, eLst, eTup, eDct, oO, oI, eSl, pSl, eB, qAbs, qInt, qList, qTuple, pAdd, pSub, pMul, pDiv, pMod, pPow, pOrd, pEq, pNe, pEqB, pNeg, pIsN, pDx, int?, lst?, dct?, tup?, key?, getMu, putMu, getL, getD', mApp, mPop, mPopAt, mGet2, mIndex, gN, gC, gT, iSeq, run_range1, run_range2, iEnum1, iZip2, eCall, eCallI, kCall, kCallI, M.thr, run_setS, run_setF, run_setO, e2, g, g']
theorem tup2 {i j : Nat} {ρ : VE} {xs ys : List Dv} (q : 2 ≤ sizeLine) (hij : i ≠ j) (hi : ρ[i]? = some (.mu false (.lst xs))) (hj : ρ[j]? = some (.mu false (.lst ys))) : eTup (aC (sub (eV i)) (aC (sub (eV j)) aN)) ρ = .ok (.d (.tup [.lst xs, .lst ys])) ((ρ.set i (.val (.lst xs))).set j (.val (.lst ys))) := by
  simp [sSeq, sIf, sSet, sRet, sRetN, sExpr, sNil, sFor, sAsg, sSetIx, sPut, sAug, putV, eV, eC, sub, fz, b2, b1, e3, con, ali, toB, eT, tru, tNt, tAn, tO, eAn, eO, eNt, eIf, aC, aN, conL, aliL, eLst, eTup, eDct, oO, oI, eSl, pSl, eB, qAbs, qInt, qList, qTuple, pAdd, pSub, pMul, pDiv, pMod, pPow, pOrd, pEq, pNe, pEqB, pNeg, pIsN, pDx, int?, lst?, dct?, tup?, key?, getMu, putMu, getL, getD', mApp, mPop, mPopAt, mGet2, mIndex, gN, gC, gT, iSeq, run_range1, run_range2, iEnum1, iZip2, eCall, eCallI, kCall, kCallI, M.thr, run_setS, run_setF, run_setO, hi, hj, q, hij]
theorem due4y {ps : List Int} {t : Nat} (h : Good (.lst (iz ps)) ps) (ht : t < ps.length) : ∃ ρ, m__law_due [.val (.int 4), .val (.lst (iz ps)), .val (.int t)] = .ok (.fr (.lst [.str "told", .tup [.lst (iz (pick false (onG t [] ps))), .lst (iz (pick true (onG t [] ps)))]])) ρ := by
  rw [due_head h]
  have q : 2 ≤ sizeLine := by decide
  have e := h.sq.len
  have h2 := h.l2
  obtain ⟨ρ1, e1⟩ := run__law_on h.sq (t := t) (by omega) (by omega)
  have hf : (onG t [] ps).map (·.1) = ps := by rw [onG_fst]; rfl
  have hn : (onG t [] ps).length = ps.length := by rw [onG_length]; simp
  have hix : ∀ (k : Nat) (hk : k < (onG t [] ps).length) (ρ : VE), pIx (.lst (iz ps)) (.int (k : Int)) ρ = .ok (.d (.int (onG t [] ps)[k].1)) ρ := fun k hk ρ =>
    ix_at h.sq (j := k) (x := (onG t [] ps)[k].1) (by
      have : ((onG t [] ps).map (·.1))[k]? = some (onG t [] ps)[k].1 := by rw [List.getElem?_map, List.getElem?_eq_getElem hk]; rfl
      rw [hf] at this; exact this) ρ
  have hbx : ∀ (k : Nat) (hk : k < (onG t [] ps).length) (ρ : VE), pIx (.lst (bz ((onG t [] ps).map (·.2)))) (.int (k : Int)) ρ = .ok (.d (.bl (onG t [] ps)[k].2)) ρ := fun k hk ρ => by
    rw [ix_bz _ (by simpa using hk)]; simp
  have ht0 : ¬ (t : Int) < 0 := by omega
  have ht1 : ¬ (ps.length : Int) ≤ (t : Int) := by omega
  rw [← hn] at e h2
  unfold R3__law_due
  generalize onG t [] ps = acc at *
  have ni := rg1n (i := 1) (n := acc.length) (by omega) (ρ := [.val (.int 4), .val (.lst (iz ps)), .val (.int t), .mu false (.lst []), .mu false (.lst (bz (acc.map (·.2)))), .no, .no, .no, .no, .no]) rfl e
  have c5 := pick_comp (b := false) (acc := acc) (mt := T2__law_due) (me := E2__law_due) ni (fun k hk => by
      unfold T2__law_due
      rw [ntb (ixb rfl rfl (hbx k hk))]
      cases acc[k].2 <;> rfl) (fun k hk => by unfold E2__law_due; exact subd (ixv rfl rfl (hix k hk))) (by omega)
  have s5 := set_fr (i := 5) c5 (by simp) rfl
  simp only [List.set_cons_succ, List.set_cons_zero] at s5
  have ni6 := rg1n (i := 1) (n := acc.length) (by omega) (ρ := [.val (.int 4), .val (.lst (iz ps)), .val (.int t), .mu false (.lst []), .mu false (.lst (bz (acc.map (·.2)))), .mu false (.lst (iz (pick false acc))), .no, .no, .no, .no]) rfl e
  have c6 := pick_comp (b := true) (acc := acc) (mt := T3__law_due) (me := E3__law_due) ni6 (fun k hk => by
      unfold T3__law_due
      rw [tb (ixb rfl rfl (hbx k hk))]
      cases acc[k].2 <;> rfl) (fun k hk => by unfold E3__law_due; exact subd (ixv rfl rfl (hix k hk))) (by omega)
  have s6 := set_fr (i := 6) c6 (by simp) rfl
  simp only [List.set_cons_succ, List.set_cons_zero] at s6
  have s4 := set_fr (i := 4) (call2v (i := 1) (j := 2) (ρ := [.val (.int 4), .val (.lst (iz ps)), .val (.int t), .mu false (.lst []), .no, .no, .no, .no, .no, .no]) rfl rfl e1) (by simp) rfl
  simp only [List.set_cons_succ, List.set_cons_zero] at s4
  rw [seq_rt (iff_t (isz rfl rfl) ((seq_nx (iff_f (or_f (ltz rfl (decide_eq_false ht0)) (geb rfl (len rfl e) (decide_eq_false (by rw [hn]; exact ht1)))) nil_nx)).trans ((seq_nx s4).trans ((seq_nx s5).trans ((seq_nx s6).trans (ret_fr (told q (tup2 q (by decide) rfl rfl))))))))]
  exact ⟨_, rfl⟩
end K42
end
section
set_option Elab.async false
set_option linter.all false
set_option maxRecDepth 100000
set_option maxHeartbeats 4000000
namespace K42
open PySem L2 P0

theorem try_ok {isa : Str → Str → Option Bool} {hs : List (Str × Option Nat × (Er → M Fl))} {mb : M Fl} {ρ ρ' : VE} {f : Fl} (h : mb ρ = .ok f ρ') : sTry isa hs mb ρ = .ok f ρ' := by
  unfold sTry; rw [h]
theorem try_exc {isa : Str → Str → Option Bool} {hs : List (Str × Option Nat × (Er → M Fl))} {mb : M Fl} {ρ ρ' : VE} {er : Er} {r : R Fl} (h : mb ρ = .exc er ρ') (h2 : tryH isa hs er ρ' = r) : sTry isa hs mb ρ = r := by
  unfold sTry; rw [h]; exact h2
theorem set_exc {m : M RV} {i : Nat} {ρ ρ' : VE} {er : Er} (h : m ρ = .exc er ρ') : sSet i m ρ = .exc er ρ' := by
  unfold sSet; rw [run_bind, h]
theorem call1x {φ : List Sl → R RV} {i : Nat} {ρ : VE} {d : Dv} {er : Er} {ρ0 : VE} (g : ρ[i]? = some (.val d)) (e2 : φ [.val d] = .exc er ρ0) : eCall 1 φ (aC (sub (eV i)) aN) ρ = .exc er ρ := by
  simp [sSeq, sIf, sSet, sRet, sRetN, sExpr, sNil, sFor, sAsg, sSetIx, sPut, sAug, putV, eV, eC, sub, fz, b2, b1, e3, con, ali, toB, eT, tru, tNt, tAn, tO, eAn, eO, eNt, eIf, aC, aN, conL, aliL, eLst, eTup, eDct, oO, oI, eSl, pSl, eB, qAbs, qInt, qList, qTuple, pAdd, pSub, pMul, pDiv, pMod, pPow, pOrd, pEq, pNe, pEqB, pNeg, pIsN, pDx, int?, lst?, dct?, tup?, key?, getMu, putMu, getL, getD', mApp, mPop, mPopAt, mGet2, mIndex, gN, gC, gT, iSeq, run_range1, run_range2, iEnum1, iZip2, eCall, eCallI, kCall, kCallI, M.thr, run_setS, run_setF, run_setO, e2, g]
theorem call2x {φ : List Sl → R RV} {i j : Nat} {ρ : VE} {d d' : Dv} {er : Er} {ρ0 : VE} (g : ρ[i]? = some (.val d)) (g' : ρ[j]? = some (.val d')) (e2 : φ [.val d, .val d'] = .exc er ρ0) : eCall 2 φ (aC (sub (eV i)) (aC (sub (eV j)) aN)) ρ = .exc er ρ := by
  simp [sSeq, sIf, sSet, sRet, sRetN, sExpr, sNil, sFor, sAsg, sSetIx, sPut, sAug, putV, eV, eC, sub, fz, b2, b1, e3, con, ali, toB, eT, tru, tNt, tAn, tO, eAn, eO, eNt, eIf, aC, aN, conL, aliL, eLst, eTup, eDct, oO, oI, eSl, pSl, eB, qAbs, qInt, qList, qTuple, pAdd, pSub, pMul, pDiv, pMod, pPow, pOrd, pEq, pNe, pEqB, pNeg, pIsN, pDx, int?, lst?, dct?, tup?, key?, getMu, putMu, getL, getD', mApp, mPop, mPopAt, mGet2, mIndex, gN, gC, gT, iSeq, run_range1, run_range2, iEnum1, iZip2, eCall, eCallI, kCall, kCallI, M.thr, run_setS, run_setF, run_setO, e2, g, g']
theorem ask_root {d : Dv} {t i p : Int} {ρ : VE} (h : m_levels [.val d] = .exc ⟨"RootError", some [("y", .int p), ("x", .int i)]⟩ ρ) : ∃ ρ, m__law_ask [.val (.int 3), .val d, .val (.int t)] = .ok (.fr (.lst [.str "root", .int i, .int p, .bl false])) ρ := by
  unfold m__law_ask b__law_ask
  rw [runB_fin]
  rw [seq_rt (try_exc (iff_f (isz rfl rfl) (iff_f (isz rfl rfl) (iff_f (isz rfl rfl) (iff_t (isz rfl rfl) (set_exc (call1x rfl h)))))) (by rfl))]
  exact ⟨_, rfl⟩
theorem ask_num0 {d : Dv} {t p : Int} {ρ : VE} (h : m_is_pyramid [.val d] = .exc ⟨"NumberError", some [("number", .int p)]⟩ ρ) : ∃ ρ, m__law_ask [.val (.int 0), .val d, .val (.int t)] = .ok (.fr (.lst [.str "number", .int p, .bl false])) ρ := by
  unfold m__law_ask b__law_ask
  rw [runB_fin]
  rw [seq_rt (try_exc (iff_t (isz rfl rfl) (set_exc (call1x rfl h))) (by rfl))]
  exact ⟨_, rfl⟩
theorem ask_size0 {d : Dv} {t p : Int} {ρ : VE} (h : m_is_pyramid [.val d] = .exc ⟨"SizeError", some [("count", .int p)]⟩ ρ) : ∃ ρ, m__law_ask [.val (.int 0), .val d, .val (.int t)] = .ok (.fr (.lst [.str "size", .int p, .bl false])) ρ := by
  unfold m__law_ask b__law_ask
  rw [runB_fin]
  rw [seq_rt (try_exc (iff_t (isz rfl rfl) (set_exc (call1x rfl h))) (by rfl))]
  exact ⟨_, rfl⟩
theorem ask_num1 {d : Dv} {t p : Int} {ρ : VE} (h : m_is_strict [.val d] = .exc ⟨"NumberError", some [("number", .int p)]⟩ ρ) : ∃ ρ, m__law_ask [.val (.int 1), .val d, .val (.int t)] = .ok (.fr (.lst [.str "number", .int p, .bl false])) ρ := by
  unfold m__law_ask b__law_ask
  rw [runB_fin]
  rw [seq_rt (try_exc (iff_f (isz rfl rfl) (iff_t (isz rfl rfl) (set_exc (call1x rfl h)))) (by rfl))]
  exact ⟨_, rfl⟩
theorem ask_size1 {d : Dv} {t p : Int} {ρ : VE} (h : m_is_strict [.val d] = .exc ⟨"SizeError", some [("count", .int p)]⟩ ρ) : ∃ ρ, m__law_ask [.val (.int 1), .val d, .val (.int t)] = .ok (.fr (.lst [.str "size", .int p, .bl false])) ρ := by
  unfold m__law_ask b__law_ask
  rw [runB_fin]
  rw [seq_rt (try_exc (iff_f (isz rfl rfl) (iff_t (isz rfl rfl) (set_exc (call1x rfl h)))) (by rfl))]
  exact ⟨_, rfl⟩
theorem ask_num2 {d : Dv} {t p : Int} {ρ : VE} (h : m_is_half [.val d] = .exc ⟨"NumberError", some [("number", .int p)]⟩ ρ) : ∃ ρ, m__law_ask [.val (.int 2), .val d, .val (.int t)] = .ok (.fr (.lst [.str "number", .int p, .bl false])) ρ := by
  unfold m__law_ask b__law_ask
  rw [runB_fin]
  rw [seq_rt (try_exc (iff_f (isz rfl rfl) (iff_f (isz rfl rfl) (iff_t (isz rfl rfl) (set_exc (call1x rfl h))))) (by rfl))]
  exact ⟨_, rfl⟩
theorem ask_size2 {d : Dv} {t p : Int} {ρ : VE} (h : m_is_half [.val d] = .exc ⟨"SizeError", some [("count", .int p)]⟩ ρ) : ∃ ρ, m__law_ask [.val (.int 2), .val d, .val (.int t)] = .ok (.fr (.lst [.str "size", .int p, .bl false])) ρ := by
  unfold m__law_ask b__law_ask
  rw [runB_fin]
  rw [seq_rt (try_exc (iff_f (isz rfl rfl) (iff_f (isz rfl rfl) (iff_t (isz rfl rfl) (set_exc (call1x rfl h))))) (by rfl))]
  exact ⟨_, rfl⟩
theorem ask_num3 {d : Dv} {t p : Int} {ρ : VE} (h : m_levels [.val d] = .exc ⟨"NumberError", some [("number", .int p)]⟩ ρ) : ∃ ρ, m__law_ask [.val (.int 3), .val d, .val (.int t)] = .ok (.fr (.lst [.str "number", .int p, .bl false])) ρ := by
  unfold m__law_ask b__law_ask
  rw [runB_fin]
  rw [seq_rt (try_exc (iff_f (isz rfl rfl) (iff_f (isz rfl rfl) (iff_f (isz rfl rfl) (iff_t (isz rfl rfl) (set_exc (call1x rfl h)))))) (by rfl))]
  exact ⟨_, rfl⟩
theorem ask_size3 {d : Dv} {t p : Int} {ρ : VE} (h : m_levels [.val d] = .exc ⟨"SizeError", some [("count", .int p)]⟩ ρ) : ∃ ρ, m__law_ask [.val (.int 3), .val d, .val (.int t)] = .ok (.fr (.lst [.str "size", .int p, .bl false])) ρ := by
  unfold m__law_ask b__law_ask
  rw [runB_fin]
  rw [seq_rt (try_exc (iff_f (isz rfl rfl) (iff_f (isz rfl rfl) (iff_f (isz rfl rfl) (iff_t (isz rfl rfl) (set_exc (call1x rfl h)))))) (by rfl))]
  exact ⟨_, rfl⟩
theorem ask_num4 {d : Dv} {t p : Int} {ρ : VE} (h : m_pushed [.val d, .val (.int t)] = .exc ⟨"NumberError", some [("number", .int p)]⟩ ρ) : ∃ ρ, m__law_ask [.val (.int 4), .val d, .val (.int t)] = .ok (.fr (.lst [.str "number", .int p, .bl false])) ρ := by
  unfold m__law_ask b__law_ask
  rw [runB_fin]
  rw [seq_rt (try_exc (iff_f (isz rfl rfl) (iff_f (isz rfl rfl) (iff_f (isz rfl rfl) (iff_f (isz rfl rfl) (set_exc (call2x rfl rfl h)))))) (by rfl))]
  exact ⟨_, rfl⟩
theorem ask_size4 {d : Dv} {t p : Int} {ρ : VE} (h : m_pushed [.val d, .val (.int t)] = .exc ⟨"SizeError", some [("count", .int p)]⟩ ρ) : ∃ ρ, m__law_ask [.val (.int 4), .val d, .val (.int t)] = .ok (.fr (.lst [.str "size", .int p, .bl false])) ρ := by
  unfold m__law_ask b__law_ask
  rw [runB_fin]
  rw [seq_rt (try_exc (iff_f (isz rfl rfl) (iff_f (isz rfl rfl) (iff_f (isz rfl rfl) (iff_f (isz rfl rfl) (set_exc (call2x rfl rfl h)))))) (by rfl))]
  exact ⟨_, rfl⟩
theorem q2s : 2 ≤ sizeLine := by decide
theorem toldO_d {i : Nat} {ρ : VE} {d : Dv} (g : ρ[i]? = some (.val d)) : sRet (eLstO (aC (sub (eC (.str "told"))) (aC (sub (eV i)) aN))) ρ = .ok (.rt (.ow (.lst [.fz (.str "told"), .fz d]))) ρ := by
  simp [sSeq, sIf, sSet, sRet, sRetN, sExpr, sNil, sFor, sAsg, sSetIx, sPut, sAug, putV, eV, eC, sub, fz, b2, b1, e3, con, ali, toB, eT, tru, tNt, tAn, tO, eAn, eO, eNt, eIf, aC, aN, conL, aliL, eLst, eTup, eDct, oO, oI, eSl, pSl, eB, qAbs, qInt, qList, qTuple, pAdd, pSub, pMul, pDiv, pMod, pPow, pOrd, pEq, pNe, pEqB, pNeg, pIsN, pDx, int?, lst?, dct?, tup?, key?, getMu, putMu, getL, getD', mApp, mPop, mPopAt, mGet2, mIndex, gN, gC, gT, iSeq, run_range1, run_range2, iEnum1, iZip2, eCall, eCallI, kCall, kCallI, M.thr, run_setS, run_setF, run_setO, eLstO, mvL, mvA, g, q2s]
theorem toldO_mu {i : Nat} {ρ : VE} {xs : List Dv} (g : ρ[i]? = some (.mu false (.lst xs))) : sRet (eLstO (aC (sub (eC (.str "told"))) (aC (sub (eV i)) aN))) ρ = .ok (.rt (.ow (.lst [.fz (.str "told"), .lst (fzs xs)]))) (ρ.set i .no) := by
  simp [sSeq, sIf, sSet, sRet, sRetN, sExpr, sNil, sFor, sAsg, sSetIx, sPut, sAug, putV, eV, eC, sub, fz, b2, b1, e3, con, ali, toB, eT, tru, tNt, tAn, tO, eAn, eO, eNt, eIf, aC, aN, conL, aliL, eLst, eTup, eDct, oO, oI, eSl, pSl, eB, qAbs, qInt, qList, qTuple, pAdd, pSub, pMul, pDiv, pMod, pPow, pOrd, pEq, pNe, pEqB, pNeg, pIsN, pDx, int?, lst?, dct?, tup?, key?, getMu, putMu, getL, getD', mApp, mPop, mPopAt, mGet2, mIndex, gN, gC, gT, iSeq, run_range1, run_range2, iEnum1, iZip2, eCall, eCallI, kCall, kCallI, M.thr, run_setS, run_setF, run_setO, eLstO, mvL, mvA, otOf, g, q2s]
theorem toldO_ot {i : Nat} {ρ : VE} {t : Ot} (g : ρ[i]? = some (.ot t)) : sRet (eLstO (aC (sub (eC (.str "told"))) (aC (sub (eV i)) aN))) ρ = .ok (.rt (.ow (.lst [.fz (.str "told"), t]))) (ρ.set i .no) := by
  simp [sSeq, sIf, sSet, sRet, sRetN, sExpr, sNil, sFor, sAsg, sSetIx, sPut, sAug, putV, eV, eC, sub, fz, b2, b1, e3, con, ali, toB, eT, tru, tNt, tAn, tO, eAn, eO, eNt, eIf, aC, aN, conL, aliL, eLst, eTup, eDct, oO, oI, eSl, pSl, eB, qAbs, qInt, qList, qTuple, pAdd, pSub, pMul, pDiv, pMod, pPow, pOrd, pEq, pNe, pEqB, pNeg, pIsN, pDx, int?, lst?, dct?, tup?, key?, getMu, putMu, getL, getD', mApp, mPop, mPopAt, mGet2, mIndex, gN, gC, gT, iSeq, run_range1, run_range2, iEnum1, iZip2, eCall, eCallI, kCall, kCallI, M.thr, run_setS, run_setF, run_setO, eLstO, mvL, mvA, g, q2s]
theorem ask_told0 {d : Dv} {t : Int} {x : Dv} {ρ : VE} (h : m_is_pyramid [.val d] = .ok (.d x) ρ) : ∃ ρ, m__law_ask [.val (.int 0), .val d, .val (.int t)] = .ok (.ow (.lst [.fz (.str "told"), .fz x])) ρ := by
  unfold m__law_ask b__law_ask
  rw [runB_fin]
  rw [seq_nx (try_ok (iff_t (isz rfl rfl) (set_d (call1 rfl h) (by simp) rfl))), toldO_d rfl]
  exact ⟨_, rfl⟩
theorem ask_told1 {d : Dv} {t : Int} {x : Dv} {ρ : VE} (h : m_is_strict [.val d] = .ok (.d x) ρ) : ∃ ρ, m__law_ask [.val (.int 1), .val d, .val (.int t)] = .ok (.ow (.lst [.fz (.str "told"), .fz x])) ρ := by
  unfold m__law_ask b__law_ask
  rw [runB_fin]
  rw [seq_nx (try_ok (iff_f (isz rfl rfl) (iff_t (isz rfl rfl) (set_d (call1 rfl h) (by simp) rfl)))), toldO_d rfl]
  exact ⟨_, rfl⟩
theorem ask_told2 {d : Dv} {t : Int} {x : Dv} {ρ : VE} (h : m_is_half [.val d] = .ok (.d x) ρ) : ∃ ρ, m__law_ask [.val (.int 2), .val d, .val (.int t)] = .ok (.ow (.lst [.fz (.str "told"), .fz x])) ρ := by
  unfold m__law_ask b__law_ask
  rw [runB_fin]
  rw [seq_nx (try_ok (iff_f (isz rfl rfl) (iff_f (isz rfl rfl) (iff_t (isz rfl rfl) (set_d (call1 rfl h) (by simp) rfl))))), toldO_d rfl]
  exact ⟨_, rfl⟩
theorem ask_told3 {d : Dv} {t : Int} {xs : List Dv} {ρ : VE} (h : m_levels [.val d] = .ok (.fr (.lst xs)) ρ) : ∃ ρ, m__law_ask [.val (.int 3), .val d, .val (.int t)] = .ok (.ow (.lst [.fz (.str "told"), .lst (fzs xs)])) ρ := by
  unfold m__law_ask b__law_ask
  rw [runB_fin]
  rw [seq_nx (try_ok (iff_f (isz rfl rfl) (iff_f (isz rfl rfl) (iff_f (isz rfl rfl) (iff_t (isz rfl rfl) (set_fr (call1 rfl h) (by simp) rfl)))))), toldO_mu rfl]
  exact ⟨_, rfl⟩
theorem ask_told4 {d : Dv} {t : Int} {o : Ot} {ρ : VE} (h : m_pushed [.val d, .val (.int t)] = .ok (.ow o) ρ) : ∃ ρ, m__law_ask [.val (.int 4), .val d, .val (.int t)] = .ok (.ow (.lst [.fz (.str "told"), o])) ρ := by
  unfold m__law_ask b__law_ask
  rw [runB_fin]
  rw [seq_nx (try_ok (iff_f (isz rfl rfl) (iff_f (isz rfl rfl) (iff_f (isz rfl rfl) (iff_f (isz rfl rfl) (set_ow (call2v rfl rfl h) (by simp) rfl)))))), toldO_ot rfl]
  exact ⟨_, rfl⟩
end K42
end
section
set_option Elab.async false
set_option linter.all false
set_option maxRecDepth 100000
set_option maxHeartbeats 4000000
namespace P0
open PySem PySem.Spec L2
open PyProof.Rows hiding St
def bR {α β : Type} (r : R α) (f : α → M β) : R β := match r with
  | .ok a ρ => f a ρ
  | .exc e ρ => .exc e ρ
  | .bad => .bad
@[simp] theorem bR_ok {α β : Type} {a : α} {ρ : VE} {f : α → M β} : bR (.ok a ρ) f = f a ρ := (rfl)
@[simp] theorem bR_exc {α β : Type} {e : Er} {ρ : VE} {f : α → M β} : bR (.exc e ρ) f = .exc e ρ := (rfl)
@[simp] theorem bR_bad {α β : Type} {f : α → M β} : bR .bad f = .bad := (rfl)
@[simp ↓ high] theorem run_bR {α β : Type} (m : M α) (f : α → M β) (ρ : VE) : (m >>= f) ρ = bR (m ρ) f := (rfl)
@[simp ↓] theorem run_grd' (c : Prop) [Decidable c] (ρ : VE) : M.grd c ρ = if c then .ok () ρ else .bad := (rfl)
@[simp ↓] theorem run_badM {α : Type} (ρ : VE) : (M.bad : M α) ρ = .bad := (rfl)
@[simp ↓] theorem x_sub (m : M RV) (ρ : VE) : sub m ρ = ((do
  let r ← m
  pure (fz r)) : M AV) ρ := (rfl)
@[simp ↓] theorem x_con (a : AV) (ρ : VE) : con a ρ = ( match a with
  | .d d => .ok d ρ
  | .bor i => match ρ[i]? with
    | some (.mu _ d) => .ok d ρ
    | some (.val d) => .ok d ρ
    | _ => .bad) := (rfl)
@[simp ↓] theorem x_ali (a : AV) (ρ : VE) : ali a ρ = ( match a with
  | .d d => .ok d ρ
  | .bor i => match ρ[i]? with
    | some (.mu false d) => .ok d (ρ.set i (.val d))
    | some (.ot t) => .ok t.er (ρ.set i (.val t.er))
    | some (.val d) => .ok d ρ
    | _ => .bad) := (rfl)
@[simp ↓] theorem x_eV (i : Nat) (ρ : VE) : eV i ρ = ( match ρ[i]? with
  | some (.val d) => .ok (.d d) ρ
  | some (.mu _ _) => .ok (.bor i) ρ
  | some (.ot _) => .ok (.bor i) ρ
  | _ => .bad) := (rfl)
@[simp ↓] theorem x_eC (d : Dv) (ρ : VE) : eC d ρ = ((pure (.d d)) : M RV) ρ := (rfl)
@[simp ↓] theorem x_b2 (p : Dv → Dv → M RV) (ma mb : M AV) (ρ : VE) : b2 p ma mb ρ = ((do
  let x ← ma
  let y ← mb
  let d ← con x
  let e ← con y
  p d e) : M RV) ρ := (rfl)
@[simp ↓] theorem x_toB (m : M RV) (ρ : VE) : toB m ρ = ((do
  let r ← m
  match r with
  | .d (.bl b) => pure b
  | _ => M.bad) : M Bool) ρ := (rfl)
@[simp ↓] theorem x_e3 (p p' : Dv → Dv → M RV) (ma mb mc : M AV) (ρ : VE) : e3 p p' ma mb mc ρ = ((do
  let x ← ma
  let y ← mb
  let d ← con x
  let e ← con y
  let k ← toB (p d e)
  if k = true then do
    let w ← mc
    let e ← con y
    let f ← con w
    p' e f
  else pure (.d (.bl false))) : M RV) ρ := (rfl)
@[simp ↓] theorem x_b1 (p : Dv → M RV) (ma : M AV) (ρ : VE) : b1 p ma ρ = ((do
  let x ← ma
  let d ← con x
  p d) : M RV) ρ := (rfl)
@[simp ↓] theorem x_tru_0  (ρ : VE) : tru  (.non) ρ = (( pure false) : M Bool) ρ := by first | exact (rfl) | simp only [tru]
@[simp ↓] theorem x_tru_1  (ρ : VE) : tru  (.bl b) ρ = (( pure b) : M Bool) ρ := by first | exact (rfl) | simp only [tru]
@[simp ↓] theorem x_tru_2  (ρ : VE) : tru  (.int i) ρ = (( pure (i != 0)) : M Bool) ρ := by first | exact (rfl) | simp only [tru]
@[simp ↓] theorem x_tru_3  (ρ : VE) : tru  (.str x) ρ = (( do M.grd (x.length ≤ sizeLine); pure ((x.length : Int) != 0)) : M Bool) ρ := by first | exact (rfl) | simp only [tru]
@[simp ↓] theorem x_tru_4  (ρ : VE) : tru  (.lst xs) ρ = (( pure (!xs.isEmpty)) : M Bool) ρ := by first | exact (rfl) | simp only [tru]
@[simp ↓] theorem x_tru_5  (ρ : VE) : tru  (.rls xs) ρ = (( pure (!xs.isEmpty)) : M Bool) ρ := by first | exact (rfl) | simp only [tru]
@[simp ↓] theorem x_tru_6  (ρ : VE) : tru  (.tup xs) ρ = (( pure (!xs.isEmpty)) : M Bool) ρ := by first | exact (rfl) | simp only [tru]
@[simp ↓] theorem x_tru_7  (ρ : VE) : tru  (.dct kvs) ρ = (( pure (!kvs.isEmpty)) : M Bool) ρ := by first | exact (rfl) | simp only [tru]
@[simp ↓] theorem x_eT (ma : M AV) (ρ : VE) : eT ma ρ = ((do
  let x ← ma
  let d ← con x
  tru d) : M Bool) ρ := (rfl)
@[simp ↓] theorem x_tNt (m : M Bool) (ρ : VE) : tNt m ρ = ((do
  let b ← m
  pure (!b)) : M Bool) ρ := (rfl)
@[simp ↓] theorem x_tAn (m n : M Bool) (ρ : VE) : tAn m n ρ = ((do
  let b ← m
  if b = true then n else pure false) : M Bool) ρ := (rfl)
@[simp ↓] theorem x_tO (m n : M Bool) (ρ : VE) : tO m n ρ = ((do
  let b ← m
  if b = true then pure true else n) : M Bool) ρ := (rfl)
@[simp ↓] theorem x_eAn (m n : M RV) (ρ : VE) : eAn m n ρ = ((do
  let b ← toB m
  if b = true then n else pure (.d (.bl false))) : M RV) ρ := (rfl)
@[simp ↓] theorem x_eO (m n : M RV) (ρ : VE) : eO m n ρ = ((do
  let b ← toB m
  if b = true then pure (.d (.bl true)) else n) : M RV) ρ := (rfl)
@[simp ↓] theorem x_eNt (m : M RV) (ρ : VE) : eNt m ρ = ((do
  let b ← toB m
  pure (.d (.bl (!b)))) : M RV) ρ := (rfl)
@[simp ↓] theorem x_eIf (c : M Bool) (m n : M RV) (ρ : VE) : eIf c m n ρ = ((do
  let b ← c
  if b = true then m else n) : M RV) ρ := (rfl)
@[simp ↓] theorem x_aN  (ρ : VE) : aN  ρ = ((pure []) : M (List AV)) ρ := (rfl)
@[simp ↓] theorem x_aC (m : M AV) (r : M (List AV)) (ρ : VE) : aC m r ρ = ((do
  let x ← m
  let xs ← r
  pure (x :: xs)) : M (List AV)) ρ := (rfl)
@[simp ↓] theorem x_conL_0  (ρ : VE) : conL  ([]) ρ = (( pure []) : M (List Dv)) ρ := by first | exact (rfl) | simp only [conL]
@[simp ↓] theorem x_conL_1  (ρ : VE) : conL  (a :: as) ρ = (( do
    let d ← con a
    let ds ← conL as
    pure (d :: ds)) : M (List Dv)) ρ := by first | exact (rfl) | simp only [conL]
@[simp ↓] theorem x_aliL_0  (ρ : VE) : aliL  ([]) ρ = (( pure []) : M (List Dv)) ρ := by first | exact (rfl) | simp only [aliL]
@[simp ↓] theorem x_aliL_1  (ρ : VE) : aliL  (a :: as) ρ = (( do
    let d ← ali a
    let ds ← aliL as
    pure (d :: ds)) : M (List Dv)) ρ := by first | exact (rfl) | simp only [aliL]
@[simp ↓] theorem x_eLst (m : M (List AV)) (ρ : VE) : eLst m ρ = ((do
  let as ← m
  let ds ← aliL as
  M.grd (ds.length ≤ sizeLine)
  pure (.fr (.lst ds))) : M RV) ρ := (rfl)
@[simp ↓] theorem x_eTup (m : M (List AV)) (ρ : VE) : eTup m ρ = ((do
  let as ← m
  let ds ← aliL as
  M.grd (ds.length ≤ sizeLine)
  pure (.d (.tup ds))) : M RV) ρ := (rfl)
@[simp ↓] theorem x_eDct  (ρ : VE) : eDct  ρ = ((pure (.fr (.dct []))) : M RV) ρ := (rfl)
@[simp ↓] theorem x_oN  (ρ : VE) : oN  ρ = ((pure none) : M (Option AV)) ρ := (rfl)
@[simp ↓] theorem x_oS (m : M AV) (ρ : VE) : oS m ρ = ((do
  let a ← m
  pure (some a)) : M (Option AV)) ρ := (rfl)
@[simp ↓] theorem x_conI_0  (ρ : VE) : conI  (none) ρ = (( pure none) : M (Option Int)) ρ := by first | exact (rfl) | simp only [conI]
@[simp ↓] theorem x_conI_1  (ρ : VE) : conI  (some a) ρ = (( do
    let d ← con a
    match d with
    | .int i => pure (some i)
    | _ => M.bad) : M (Option Int)) ρ := by first | exact (rfl) | simp only [conI]
@[simp ↓] theorem x_oI (m : M AV) (ρ : VE) : oI m ρ = ((do
  let a ← m
  let d ← con a
  match d with
  | .int i => pure (some i)
  | _ => M.bad) : M (Option Int)) ρ := (rfl)
@[simp ↓] theorem x_oO  (ρ : VE) : oO  ρ = ((pure none) : M (Option Int)) ρ := (rfl)
@[simp ↓] theorem x_eSl (ma : M AV) (ml mh : M (Option Int)) (ρ : VE) : eSl ma ml mh ρ = ((do
  let x ← ma
  let lo ← ml
  let hi ← mh
  let d ← con x
  pSl d lo hi) : M RV) ρ := (rfl)
@[simp] theorem x_items_q_0  : items?  (.lst xs) = (( some xs) : Option (List Dv)) := by first | exact (rfl) | simp only [items?]
@[simp] theorem x_items_q_1  : items?  (.rls xs) = (( some xs) : Option (List Dv)) := by first | exact (rfl) | simp only [items?]
@[simp] theorem x_items_q_2  : items?  (.tup xs) = (( some xs) : Option (List Dv)) := by first | exact (rfl) | simp only [items?]
@[simp ↓] theorem x_pAdd_0  (ρ : VE) : pAdd  (.int i) (.int j) ρ = (( pure (.d (.int (i + j)))) : M RV) ρ := by first | exact (rfl) | simp only [pAdd]
@[simp ↓] theorem x_pAdd_1  (ρ : VE) : pAdd  (.lst xs) (.lst ys) ρ = (( do
    M.grd (xs.length + ys.length ≤ sizeLine)
    pure (.fr (.lst (xs ++ ys)))) : M RV) ρ := by first | exact (rfl) | simp only [pAdd]
@[simp ↓] theorem x_pAdd_2  (ρ : VE) : pAdd  (.str x) (.str y) ρ = (( do
    M.grd (x.length + y.length ≤ sizeLine)
    pure (.d (.str (x ++ y)))) : M RV) ρ := by first | exact (rfl) | simp only [pAdd]
@[simp ↓] theorem x_pAdd_3  (ρ : VE) : pAdd  (.tup xs) (.tup ys) ρ = (( do
    M.grd (xs ≠ [] ∧ ys ≠ [] ∧ xs.length + ys.length ≤ sizeLine)
    pure (.d (.tup (xs ++ ys)))) : M RV) ρ := by first | exact (rfl) | simp only [pAdd]
@[simp ↓] theorem x_pSub_0  (ρ : VE) : pSub  (.int i) (.int j) ρ = (( pure (.d (.int (i - j)))) : M RV) ρ := by first | exact (rfl) | simp only [pSub]
@[simp ↓] theorem x_pMul_0  (ρ : VE) : pMul  (.int i) (.int j) ρ = (( do
    M.grd (CMulW i j)
    pure (.d (.int (i * j)))) : M RV) ρ := by first | exact (rfl) | simp only [pMul]
@[simp ↓] theorem x_pMul_1  (ρ : VE) : pMul  (.lst xs) (.int k) ρ = (( do
    M.grd (-(2 ^ 63) ≤ k ∧ k < 2 ^ 63 ∧ xs.length * k.toNat ≤ sizeLine)
    pure (.fr (.lst (List.replicate k.toNat xs).flatten))) : M RV) ρ := by first | exact (rfl) | simp only [pMul]
@[simp ↓] theorem x_pDiv_0  (ρ : VE) : pDiv  (.int i) (.int j) ρ = (( do
    M.grd (CDivW i j)
    pure (.d (.int (i / j)))) : M RV) ρ := by first | exact (rfl) | simp only [pDiv]
@[simp ↓] theorem x_pMod_0  (ρ : VE) : pMod  (.int i) (.int j) ρ = (( do
    M.grd (0 < j)
    pure (.d (.int (i % j)))) : M RV) ρ := by first | exact (rfl) | simp only [pMod]
@[simp ↓] theorem x_pPow_0  (ρ : VE) : pPow  (.int i) (.int j) ρ = (( do
    M.grd (CPow i j)
    pure (.d (.int (i ^ j.toNat)))) : M RV) ρ := by first | exact (rfl) | simp only [pPow]
@[simp ↓] theorem x_pOrd_0 (f : Int → Int → Bool) (ρ : VE) : pOrd f (.int i) (.int j) ρ = (( pure (.d (.bl (f i j)))) : M RV) ρ := by first | exact (rfl) | simp only [pOrd]
@[simp ↓] theorem x_pEqB_0  (ρ : VE) : pEqB  (.int i) (.int j) ρ = (( pure (decide (i = j))) : M Bool) ρ := by first | exact (rfl) | simp only [pEqB]
@[simp ↓] theorem x_pEqB_1  (ρ : VE) : pEqB  (.str i) (.str j) ρ = (( pure (decide (i = j))) : M Bool) ρ := by first | exact (rfl) | simp only [pEqB]
@[simp ↓] theorem x_pEqB_2  (ρ : VE) : pEqB  (.bl i) (.bl j) ρ = (( pure (decide (i = j))) : M Bool) ρ := by first | exact (rfl) | simp only [pEqB]
@[simp ↓] theorem x_pEq (d e : Dv) (ρ : VE) : pEq d e ρ = ((do
  let b ← pEqB d e
  pure (.d (.bl b))) : M RV) ρ := (rfl)
@[simp ↓] theorem x_pNe (d e : Dv) (ρ : VE) : pNe d e ρ = ((do
  let b ← pEqB d e
  pure (.d (.bl (!b)))) : M RV) ρ := (rfl)
@[simp] theorem x_key_q_0  : key?  (.int i) = (( some (.inl i)) : Option Key) := by first | exact (rfl) | simp only [key?]
@[simp] theorem x_key_q_1  : key?  (.str x) = (( some (.inr x)) : Option Key) := by first | exact (rfl) | simp only [key?]
@[simp ↓] theorem x_pIn (n : Bool) (d e : Dv) (ρ : VE) : pIn n d e ρ = ((do
  let b ← pInB d e
  pure (.d (.bl (if n then !b else b)))) : M RV) ρ := (rfl)
@[simp ↓] theorem x_pDx_0  (ρ : VE) : pDx  (.dct kvs) (x) ρ = (( do
    let k ← M.opt (key? x)
    let v ← M.opt (valD kvs k)
    pure (.d v)) : M RV) ρ := by first | exact (rfl) | simp only [pDx]
@[simp ↓] theorem x_eB (q : List Dv → M RV) (ma : M (List AV)) (ρ : VE) : eB q ma ρ = ((do
  let as ← ma
  let ds ← conL as
  q ds) : M RV) ρ := (rfl)
@[simp ↓] theorem x_qAbs_0  (ρ : VE) : qAbs  ([.int i]) ρ = (( pure (.d (.int (if i < 0 then -i else i)))) : M RV) ρ := by first | exact (rfl) | simp only [qAbs]
@[simp ↓] theorem x_qInt_0  (ρ : VE) : qInt  ([.int i]) ρ = (( pure (.d (.int i))) : M RV) ρ := by first | exact (rfl) | simp only [qInt]
@[simp ↓] theorem x_qInt_1  (ρ : VE) : qInt  ([.bl k]) ρ = (( pure (.d (.int (if k then 1 else 0)))) : M RV) ρ := by first | exact (rfl) | simp only [qInt]
@[simp] theorem x_ints_q_0  : ints?  ([]) = (( some []) : Option (List Int)) := by first | exact (rfl) | simp only [ints?]
@[simp] theorem x_ints_q_1  : ints?  (.int i :: ds) = (( (ints? ds).map (i :: ·)) : Option (List Int)) := by first | exact (rfl) | simp only [ints?]
@[simp ↓] theorem x_qSum_0  (ρ : VE) : qSum  ([.lst xs]) ρ = (( do
    let ns ← M.opt (ints? xs)
    pure (.d (.int ns.sum))) : M RV) ρ := by first | exact (rfl) | simp only [qSum]
@[simp ↓] theorem x_qSum_1  (ρ : VE) : qSum  ([.rls xs]) ρ = (( do
    let ns ← M.opt (ints? xs)
    pure (.d (.int ns.sum))) : M RV) ρ := by first | exact (rfl) | simp only [qSum]
@[simp ↓] theorem x_qList_0  (ρ : VE) : qList  ([d]) ρ = (( do
    let xs ← M.opt (items? d)
    pure (.fr (.lst xs))) : M RV) ρ := by first | exact (rfl) | simp only [qList]
@[simp ↓] theorem x_qTuple_0  (ρ : VE) : qTuple  ([.tup xs]) ρ = (( pure (.d (.tup xs))) : M RV) ρ := by first | exact (rfl) | simp only [qTuple]
@[simp ↓] theorem x_qTuple_1  (ρ : VE) : qTuple  ([.lst xs]) ρ = (( pure (.d (.tup xs))) : M RV) ρ := by first | exact (rfl) | simp only [qTuple]
@[simp ↓] theorem x_qTuple_2  (ρ : VE) : qTuple  ([.rls xs]) ρ = (( pure (.d (.tup xs))) : M RV) ρ := by first | exact (rfl) | simp only [qTuple]
@[simp ↓] theorem x_qRepr_0  (ρ : VE) : qRepr  ([d]) ρ = (( do
    M.grd (okRepr d = true)
    pure (.d (.str (toPy d).shown))) : M RV) ρ := by first | exact (rfl) | simp only [qRepr]
@[simp ↓] theorem x_getMu (i : Nat) (ρ : VE) : getMu i ρ = ( match ρ[i]? with
  | some (.mu _ d) => .ok d ρ
  | _ => .bad) := (rfl)
@[simp ↓] theorem x_putMu (i : Nat) (d : Dv) (ρ : VE) : putMu i d ρ = ( match ρ[i]? with
  | some (.mu b _) => .ok () (ρ.set i (.mu b d))
  | _ => .bad) := (rfl)
@[simp] theorem x_lst_q_0  : lst?  (.lst xs) = (( some xs) : Option (List Dv)) := by first | exact (rfl) | simp only [lst?]
@[simp] theorem x_dct_q_0  : dct?  (.dct xs) = (( some xs) : Option (List (Key × Dv))) := by first | exact (rfl) | simp only [dct?]
@[simp ↓] theorem x_getL (i : Nat) (ρ : VE) : getL i ρ = ((do
  let l ← getMu i
  M.opt (lst? l)) : M (List Dv)) ρ := (rfl)
@[simp ↓] theorem x_getD_p (i : Nat) (ρ : VE) : getD' i ρ = ((do
  let l ← getMu i
  M.opt (dct? l)) : M (List (Key × Dv))) ρ := (rfl)
@[simp ↓] theorem x_mApp (i : Nat) (m : M AV) (ρ : VE) : mApp i m ρ = ((do
  let _ ← getL i
  let a ← m
  let d ← ali a
  let xs ← getL i
  M.grd (xs.length < sizeLine)
  putMu i (.lst (xs ++ [d]))
  pure (.d .non)) : M RV) ρ := (rfl)
@[simp ↓] theorem x_mPop (i : Nat) (ρ : VE) : mPop i ρ = ((do
  let xs ← getL i
  let d ← M.opt xs[xs.length - 1]?
  putMu i (.lst xs.dropLast)
  pure (.d d)) : M RV) ρ := (rfl)
@[simp] theorem x_int_q_0  : int?  (.int i) = (( some i) : Option Int) := by first | exact (rfl) | simp only [int?]
@[simp ↓] theorem x_mPopAt (i : Nat) (m : M AV) (ρ : VE) : mPopAt i m ρ = ((do
  let _ ← getL i
  let a ← m
  let k ← con a
  let j ← M.opt (int? k)
  let xs ← getL i
  M.grd (-(2 ^ 63) ≤ j ∧ j < 2 ^ 63)
  let n ← M.opt (seqIndex? j xs.length)
  let d ← M.opt xs[n]?
  putMu i (.lst (xs.eraseIdx n))
  pure (.d d)) : M RV) ρ := (rfl)
@[simp ↓] theorem x_mGet2 (ma mb mc : M AV) (ρ : VE) : mGet2 ma mb mc ρ = ((do
  let x ← ma
  let d0 ← con x
  let _ ← M.opt (dct? d0)
  let y ← mb
  let w ← mc
  let d ← con x
  let kvs ← M.opt (dct? d)
  let ky ← con y
  let k ← M.opt (key? ky)
  let dv ← ali w
  pure (.d ((valD kvs k).getD dv))) : M RV) ρ := (rfl)
@[simp ↓] theorem x_mIndex (ma mb : M AV) (ρ : VE) : mIndex ma mb ρ = ((do
  let x ← ma
  let d0 ← con x
  let _ ← M.opt (lst? d0)
  let y ← mb
  let d ← con x
  let xs ← M.opt (lst? d)
  let k ← con y
  M.grd (flatD k = true ∧ xs.all flatD = true)
  let j ← M.opt (idxD xs k)
  pure (.d (.int j))) : M RV) ρ := (rfl)
@[simp ↓] theorem x_kCall (r : R RV) (ρ : VE) : kCall r ρ = ( match r with
  | .ok rv _ => .ok rv ρ
  | .exc er _ => .exc er ρ
  | .bad => .bad) := (rfl)
@[simp ↓] theorem x_eCall (n : Nat) (φ : List Sl → R RV) (ma : M (List AV)) (ρ : VE) : eCall n φ ma ρ = ((do
  let as ← ma
  let ds ← aliL as
  M.grd (ds.length = n)
  kCall (φ (ds.map Sl.val))) : M RV) ρ := (rfl)
@[simp ↓] theorem x_kCallI (i : Nat) (r : R RV) (ρ : VE) : kCallI i r ρ = ( match r with
  | .ok rv ρ' => match (ρ'[0]? : Option Sl) with
    | some (Sl.mu true d) => match putMu i d ρ with
      | .ok _ ρ2 => .ok rv ρ2
      | _ => .bad
    | _ => .bad
  | .exc er ρ' => match (ρ'[0]? : Option Sl) with
    | some (Sl.mu true d) => match putMu i d ρ with
      | .ok _ ρ2 => .exc er ρ2
      | _ => .bad
    | _ => .bad
  | .bad => .bad) := (rfl)
@[simp ↓] theorem x_eCallI (i n : Nat) (φ : List Sl → R RV) (ma : M (List AV)) (ρ : VE) : eCallI i n φ ma ρ = ((do
  let _ ← getMu i
  let as ← ma
  let ds ← aliL as
  M.grd (ds.length = n)
  let d0 ← getMu i
  kCallI i (φ (Sl.mu true d0 :: ds.map Sl.val))) : M RV) ρ := (rfl)
@[simp ↓] theorem x_gN_0  (ρ : VE) : gN  ([]) ρ = (( pure ()) : M Unit) ρ := by first | exact (rfl) | simp only [gN]
@[simp ↓] theorem x_gN_1  (ρ : VE) : gN  (w1 :: w2) ρ = (( M.bad) : M Unit) ρ := by first | exact (rfl) | simp only [gN]
@[simp ↓] theorem x_gC_0 (mg : Dv → M Unit) (mgs : List Dv → M Unit) (ρ : VE) : gC mg mgs ([]) ρ = (( M.bad) : M Unit) ρ := by first | exact (rfl) | simp only [gC]
@[simp ↓] theorem x_gC_1 (mg : Dv → M Unit) (mgs : List Dv → M Unit) (ρ : VE) : gC mg mgs (d :: ds) ρ = (( do
    mg d
    mgs ds) : M Unit) ρ := by first | exact (rfl) | simp only [gC]
@[simp] theorem x_tup_q_0  : tup?  (.tup xs) = (( some xs) : Option (List Dv)) := by first | exact (rfl) | simp only [tup?]
@[simp ↓] theorem x_gT (n : Nat) (mgs : List Dv → M Unit) (d : Dv) (ρ : VE) : gT n mgs d ρ = ((do
  let xs ← M.opt (tup? d)
  M.grd (xs.length = n)
  mgs xs) : M Unit) ρ := (rfl)
@[simp ↓] theorem x_iSeq (ma : M AV) (ρ : VE) : iSeq ma ρ = ((do
  let a ← ma
  let d ← ali a
  M.opt (walk? d)) : M (List Dv)) ρ := (rfl)
@[simp ↓] theorem x_iEnumL (ma : M (List AV)) (ρ : VE) : iEnumL ma ρ = ((do
  let as ← ma
  let ds ← aliL as
  match ds with
  | [.lst xs] => pure (enumD xs)
  | [.rls xs] => pure (enumD xs)
  | _ => M.bad) : M (List Dv)) ρ := (rfl)
@[simp ↓] theorem x_iZipL (ma : M (List AV)) (ρ : VE) : iZipL ma ρ = ((do
  let as ← ma
  let ds ← aliL as
  match ds with
  | [.lst xs, .lst ys] => pure (zipD xs ys)
  | _ => M.bad) : M (List Dv)) ρ := (rfl)
@[simp ↓] theorem x_wipeM (vs : List Nat) (ρ : VE) : wipeM vs ρ = ( if vs.any (fun i => isIo (ρ[i]? : Option Sl)) = true then .bad else .ok () (wipeE ρ vs)) := (rfl)
theorem x_compL_0 (vs : List Nat) (mg : Dv → M Unit) (mt : M Bool) (me : M AV) (ρ : VE) : compL vs mg mt me ([]) (acc) ρ = (( do
    wipeM vs
    pure acc) : M (List Dv)) ρ := by first | exact (rfl) | simp only [compL]
theorem x_compL_1 (vs : List Nat) (mg : Dv → M Unit) (mt : M Bool) (me : M AV) (ρ : VE) : compL vs mg mt me (d :: ds) (acc) ρ = (( do
    wipeM vs
    mg d
    let b ← mt
    if b = true then do
      let a ← me
      let y ← ali a
      M.grd (acc.length < sizeLine)
      compL vs mg mt me ds (acc ++ [y])
    else compL vs mg mt me ds acc) : M (List Dv)) ρ := by first | exact (rfl) | simp only [compL]
@[simp ↓] theorem x_noX {α : Type} (m : M α) (ρ : VE) : noX m ρ = ( match m ρ with
  | .ok a ρ' => .ok a ρ'
  | .exc _ _ => .bad
  | .bad => .bad) := (rfl)
@[simp ↓] theorem x_eComp (vs : List Nat) (mi : M (List Dv)) (mg : Dv → M Unit) (mt : M Bool) (me : M AV) (ρ : VE) : eComp vs mi mg mt me ρ = ((do
  let ds ← mi
  let r ← noX (compL vs mg mt me ds [])
  pure (.fr (.lst r))) : M RV) ρ := (rfl)
@[simp ↓] theorem x_sNil  (ρ : VE) : sNil  ρ = ((pure .nx) : M Fl) ρ := (rfl)
@[simp ↓] theorem x_sSeq (m n : M Fl) (ρ : VE) : sSeq m n ρ = ((do
  let f ← m
  match f with
  | .nx => n
  | .bk => pure .bk
  | .ct => pure .ct
  | .rt r => pure (.rt r)) : M Fl) ρ := (rfl)
@[simp ↓] theorem x_sBreak  (ρ : VE) : sBreak  ρ = ((pure .bk) : M Fl) ρ := (rfl)
@[simp ↓] theorem x_sCont  (ρ : VE) : sCont  ρ = ((pure .ct) : M Fl) ρ := (rfl)
@[simp ↓] theorem x_sExpr (m : M RV) (ρ : VE) : sExpr m ρ = ((do
  let _ ← m
  pure .nx) : M Fl) ρ := (rfl)
@[simp ↓] theorem x_sRet (m : M RV) (ρ : VE) : sRet m ρ = ((do
  let r ← m
  pure (.rt r)) : M Fl) ρ := (rfl)
@[simp ↓] theorem x_sRetN  (ρ : VE) : sRetN  ρ = ((pure (.rt (.d .non))) : M Fl) ρ := (rfl)
@[simp ↓] theorem x_sIf (c : M Bool) (m n : M Fl) (ρ : VE) : sIf c m n ρ = ((do
  let b ← c
  if b = true then m else n) : M Fl) ρ := (rfl)
@[simp ↓] theorem x_putV_0 (i : Nat) (ρ : VE) : putV i (.d d) ρ = (( setS i d) : M Unit) ρ := by first | exact (rfl) | simp only [putV]
@[simp ↓] theorem x_putV_1 (i : Nat) (ρ : VE) : putV i (.fr d) ρ = (( setF i d) : M Unit) ρ := by first | exact (rfl) | simp only [putV]
@[simp ↓] theorem x_putV_2 (i : Nat) (ρ : VE) : putV i (.ow t) ρ = (( setO i t) : M Unit) ρ := by first | exact (rfl) | simp only [putV]
@[simp ↓] theorem x_putV_3 (i : Nat) (ρ : VE) : putV i (.bor j) ρ = (( do
    let d ← ali (.bor j)
    setS i d) : M Unit) ρ := by first | exact (rfl) | simp only [putV]
@[simp ↓] theorem x_sSet (i : Nat) (m : M RV) (ρ : VE) : sSet i m ρ = ((do
  let r ← m
  putV i r
  pure .nx) : M Fl) ρ := (rfl)
@[simp ↓] theorem x_sAsg (m : M AV) (mg : Dv → M Unit) (ρ : VE) : sAsg m mg ρ = ((do
  let a ← m
  let d ← ali a
  mg d
  pure .nx) : M Fl) ρ := (rfl)
@[simp ↓] theorem x_sSetIx (i : Nat) (mv mk : M AV) (ρ : VE) : sSetIx i mv mk ρ = ((do
  let v ← mv
  let _ ← getL i
  let k ← mk
  let d ← ali v
  let kd ← con k
  let j ← M.opt (int? kd)
  let xs ← getL i
  let n ← M.opt (ixN xs.length j)
  putMu i (.lst (xs.set n d))
  pure .nx) : M Fl) ρ := (rfl)
@[simp ↓] theorem x_sPut (i : Nat) (mv mk : M AV) (ρ : VE) : sPut i mv mk ρ = ((do
  let v ← mv
  let _ ← getD' i
  let k ← mk
  let d ← ali v
  let kd ← con k
  let key ← M.opt (key? kd)
  let kvs ← getD' i
  M.grd (kvs.length < sizeLine)
  putMu i (.dct (putD kvs key d))
  pure .nx) : M Fl) ρ := (rfl)
@[simp ↓] theorem x_slInt (i : Nat) (ρ : VE) : slInt i ρ = ( match (ρ[i]? : Option Sl) with
  | some (.val (.int x)) => .ok x ρ
  | _ => .bad) := (rfl)
@[simp ↓] theorem x_sAug (f : Int → Int → Int) (i : Nat) (m : M AV) (ρ : VE) : sAug f i m ρ = ((do
  let x ← slInt i
  let a ← m
  let d ← con a
  let j ← M.opt (int? d)
  setS i (.int (f x j))
  pure .nx) : M Fl) ρ := (rfl)
@[simp ↓] theorem x_forL_0 (mg : Dv → M Unit) (mb : M Fl) (ρ : VE) : forL mg mb ([]) ρ = (( pure .nx) : M Fl) ρ := by first | exact (rfl) | simp only [forL]
theorem x_forL_1 (mg : Dv → M Unit) (mb : M Fl) (ρ : VE) : forL mg mb (d :: ds) ρ = (( do
    mg d
    let f ← mb
    match f with
    | .nx => forL mg mb ds
    | .ct => forL mg mb ds
    | .bk => pure .nx
    | .rt r => pure (.rt r)) : M Fl) ρ := by first | exact (rfl) | simp only [forL]
@[simp ↓] theorem x_sFor (mi : M (List Dv)) (mg : Dv → M Unit) (mb : M Fl) (ρ : VE) : sFor mi mg mb ρ = ((do
  let ds ← mi
  forL mg mb ds) : M Fl) ρ := (rfl)
theorem x_whL_0 (mc : M Bool) (mb : M Fl) (ρ : VE) : whL mc mb (0) ρ = (( M.bad) : M Fl) ρ := by first | exact (rfl) | simp only [whL]
theorem x_whL_1 (mc : M Bool) (mb : M Fl) (ρ : VE) : whL mc mb (n + 1) ρ = (( do
    let b ← mc
    if b = true then do
      let f ← mb
      match f with
      | .nx => whL mc mb n
      | .ct => whL mc mb n
      | .bk => pure .nx
      | .rt r => pure (.rt r)
    else pure .nx) : M Fl) ρ := by first | exact (rfl) | simp only [whL]
@[simp ↓] theorem x_M_thr {α : Type} (er : Er) (ρ : VE) : (M.thr er : M α) ρ = .exc er ρ := (rfl)
@[simp ↓] theorem x_sRaise (name : Str) (ks : List Str) (ma : M (List AV)) (ρ : VE) : sRaise name ks ma ρ = ((do
  let as ← ma
  let ds ← aliL as
  M.grd (ds.length = ks.length)
  M.thr ⟨name, some (List.zip ks.reverse ds.reverse)⟩) : M Fl) ρ := (rfl)
@[simp ↓] theorem x_tryH_0 (isa : Str → Str → Option Bool) (ρ : VE) : tryH isa ([]) (er) ρ = (( M.thr er) : M Fl) ρ := by first | exact (rfl) | simp only [tryH]
@[simp ↓] theorem x_tryH_1 (isa : Str → Str → Option Bool) (ρ : VE) : tryH isa ((nm, oi, m) :: r) (er) ρ = (( do
    let b ← M.opt (isa er.name nm)
    if b = true then do
      bindX oi
      let f ← noX (m er)
      M.grd (okRt oi f = true)
      unbindX oi
      pure f
    else tryH isa r er) : M Fl) ρ := by first | exact (rfl) | simp only [tryH]
@[simp ↓] theorem x_noExn  (ρ : VE) : noExn  ρ = ( if ρ.any isExn = true then .bad else .ok () ρ) := (rfl)
@[simp ↓] theorem x_bindX_0  (ρ : VE) : bindX  (none) ρ = (( noExn) : M Unit) ρ := by first | exact (rfl) | simp only [bindX]
@[simp ↓] theorem x_bindX_1  (ρ : VE) : bindX  (some i) ρ = (( fun ρ => if ρ.any isExn = true ∨ isIo (ρ[i]? : Option Sl) = true ∨ ρ.length ≤ i then .bad else .ok () (ρ.set i .exn)) : M Unit) ρ := by first | exact (rfl) | simp only [bindX]
@[simp ↓] theorem x_unbindX_0  (ρ : VE) : unbindX  (none) ρ = (( noExn) : M Unit) ρ := by first | exact (rfl) | simp only [unbindX]
@[simp ↓] theorem x_unbindX_1  (ρ : VE) : unbindX  (some i) ρ = (( fun ρ => if (ρ.set i .no).any isExn = true ∨ isIo (ρ[i]? : Option Sl) = true then .bad else .ok () (ρ.set i .no)) : M Unit) ρ := by first | exact (rfl) | simp only [unbindX]
@[simp] theorem x_okRt_0  : okRt  (some i) (.rt (.bor j)) = (( decide (i ≠ j)) : Bool) := by first | exact (rfl) | simp only [okRt]
@[simp ↓] theorem x_eXf (cls : List Str) (flds : List (Str × Str)) (er : Er) (i : Nat) (n : Str) (ρ : VE) : eXf cls flds er i n ρ = ( match (ρ[i]? : Option Sl) with
  | some .exn => match er.fs with
    | some fs => match fs.lookup n with
      | some d => if er.name ∈ cls ∧ (er.name, n) ∈ flds then .ok (.d d) ρ else .bad
      | none => .bad
    | none => .bad
  | _ => .bad) := (rfl)
@[simp ↓] theorem x_eIsL (cl : List Str) (prs : List (Str × Str × Bool)) (er : Er) (i : Nat) (ns : List Str) (ρ : VE) : eIsL cl prs er i ns ρ = ( match (ρ[i]? : Option Sl) with
  | some .exn => match isaL cl prs er.name ns with
    | some b => if er.name ∈ cl then .ok (.d (.bl b)) ρ else .bad
    | none => .bad
  | _ => .bad) := (rfl)
@[simp] theorem x_isaL_0 (cl : List Str) (prs : List (Str × Str × Bool)) (n : Str) : isaL cl prs n ([]) = (( some false) : Option Bool) := by first | exact (rfl) | simp only [isaL]
@[simp] theorem x_isaL_1 (cl : List Str) (prs : List (Str × Str × Bool)) (n : Str) : isaL cl prs n (m :: ms) = (( match isaT cl prs n m with
    | some true => some true
    | some false => isaL cl prs n ms
    | none => none) : Option Bool) := by first | exact (rfl) | simp only [isaL]
@[simp ↓] theorem x_iZip2 (ma : M (List AV)) (ρ : VE) : iZip2 ma ρ = ((do
  let as ← ma
  let ds ← aliL as
  match ds with
  | [a, b] => do
    let xs ← M.opt (walk? a)
    let ys ← M.opt (walk? b)
    pure (zipD xs ys)
  | _ => M.bad) : M (List Dv)) ρ := (rfl)
@[simp ↓] theorem x_iEnum1 (ma : M (List AV)) (ρ : VE) : iEnum1 ma ρ = ((do
  let as ← ma
  let ds ← aliL as
  match ds with
  | [a] => do
    let xs ← M.opt (walk? a)
    pure (enumD xs)
  | _ => M.bad) : M (List Dv)) ρ := (rfl)
@[simp] theorem x_otOf_0  : otOf  (.lst xs) = (( some (.lst (fzs xs))) : Option Ot) := by first | exact (rfl) | simp only [otOf]
@[simp] theorem x_otOf_1  : otOf  (.dct kvs) = (( some (.dct (fzk kvs))) : Option Ot) := by first | exact (rfl) | simp only [otOf]
@[simp ↓] theorem x_mvA (a : AV) (ρ : VE) : mvA a ρ = ( match a with
  | .d d => .ok (.fz d) ρ
  | .bor i => match ρ[i]? with
    | some (.mu false d) => match otOf d with
      | some t => .ok t (ρ.set i .no)
      | none => .bad
    | some (.ot t) => .ok t (ρ.set i .no)
    | some (.val d) => .ok (.fz d) ρ
    | _ => .bad) := (rfl)
@[simp ↓] theorem x_mvL_0  (ρ : VE) : mvL  ([]) ρ = (( pure []) : M (List Ot)) ρ := by first | exact (rfl) | simp only [mvL]
@[simp ↓] theorem x_mvL_1  (ρ : VE) : mvL  (a :: r) ρ = (( do
    let t ← mvA a
    let ts ← mvL r
    pure (t :: ts)) : M (List Ot)) ρ := by first | exact (rfl) | simp only [mvL]
@[simp ↓] theorem x_eLstO (m : M (List AV)) (ρ : VE) : eLstO m ρ = ((do
  let as ← m
  let ts ← mvL as
  M.grd (ts.length ≤ sizeLine)
  pure (.ow (.lst ts))) : M RV) ρ := (rfl)
@[simp ↓] theorem x_eTupO (m : M (List AV)) (ρ : VE) : eTupO m ρ = ((do
  let as ← m
  let ts ← mvL as
  M.grd (ts.length ≤ sizeLine)
  pure (.ow (.tup ts))) : M RV) ρ := (rfl)
@[simp] theorem x_flatRV_0  : flatRV  (.d d) = (( flatD d) : Bool) := by first | exact (rfl) | simp only [flatRV]
@[simp] theorem x_subT_0  : subT  (t) ([]) = (( some t) : Option Ot) := by first | exact (rfl) | simp only [subT]
@[simp] theorem x_subT_1  : subT  (.lst ts) (k :: π) = (( (atI ts k).bind fun t => subT t π) : Option Ot) := by first | exact (rfl) | simp only [subT]
@[simp] theorem x_subT_2  : subT  (.tup ts) (k :: π) = (( (atI ts k).bind fun t => subT t π) : Option Ot) := by first | exact (rfl) | simp only [subT]
@[simp] theorem x_putT_0  : putT  (w1) ([]) (u) = (( u) : Ot) := by first | exact (rfl) | simp only [putT]
@[simp] theorem x_putT_1  : putT  (.lst ts) (k :: π) (u) = (( match ixN ts.length k with
    | some j => .lst (ts.set j (putT ((ts[j]?).getD (.lst [])) π u))
    | none => .lst ts) : Ot) := by first | exact (rfl) | simp only [putT]
@[simp] theorem x_putT_2  : putT  (.tup ts) (k :: π) (u) = (( match ixN ts.length k with
    | some j => .tup (ts.set j (putT ((ts[j]?).getD (.lst [])) π u))
    | none => .tup ts) : Ot) := by first | exact (rfl) | simp only [putT]
@[simp ↓] theorem x_getO (i : Nat) (ρ : VE) : getO i ρ = ( match (ρ[i]? : Option Sl) with
  | some (.ot t) => .ok t ρ
  | some (.mu false d) => match otOf d with
    | some t => .ok t (ρ.set i (.ot t))
    | none => .bad
  | _ => .bad) := (rfl)
@[simp] theorem x_lstT_q_0  : lstT?  (.lst ts) = (( some ts) : Option (List Ot)) := by first | exact (rfl) | simp only [lstT?]
@[simp ↓] theorem x_M_ask {α : Type} (p : VE → Option α) (ρ : VE) : M.ask p ρ = ( match p ρ with
  | some a => .ok a ρ
  | none => .bad) := (rfl)
@[simp ↓] theorem x_setR (i : Nat) (s : Sl) (ρ : VE) : setR i s ρ = ( .ok () (ρ.set i s)) := (rfl)
@[simp ↓] theorem x_isMuIo (i : Nat) (ρ : VE) : isMuIo i ρ = ( if isIo (ρ[i]? : Option Sl) = true then .bad else .ok () ρ) := (rfl)
@[simp ↓] theorem x_mAppP (i : Nat) (p : VE → Option (List Int)) (m : M AV) (ρ : VE) : mAppP i p m ρ = ((do
  let t ← getO i
  let π ← M.ask p
  let xs ← M.opt ((subT t π).bind lstT?)
  setR i .no
  let av ← m
  let d ← ali av
  isMuIo i
  M.grd (xs.length < sizeLine)
  setR i (.ot (putT t π (.lst (xs ++ [.fz d]))))
  pure (.d .non)) : M RV) ρ := (rfl)
@[simp ↓] theorem x_pNeg_0  (ρ : VE) : pNeg  (.int i) ρ = (( pure (.d (.int (-i)))) : M RV) ρ := by first | exact (rfl) | simp only [pNeg]
@[simp] theorem x_fz_0  : fz  (.d d) = (( .d d) : AV) := by first | exact (rfl) | simp only [fz]
@[simp] theorem x_fz_1  : fz  (.fr d) = (( .d d) : AV) := by first | exact (rfl) | simp only [fz]
@[simp] theorem x_fz_2  : fz  (.bor i) = (( .bor i) : AV) := by first | exact (rfl) | simp only [fz]
@[simp] theorem x_fz_3  : fz  (.ow t) = (( .d t.er) : AV) := by first | exact (rfl) | simp only [fz]
@[simp] theorem x_isIo_0  : isIo  (some (.mu true w1)) = (( true) : Bool) := by first | exact (rfl) | simp only [isIo]

@[simp ↓] theorem x_pIx_lst (xs : List Dv) (i : Int) (ρ : VE) : pIx (.lst xs) (.int i) ρ = bR (M.opt (atI xs i) ρ) fun v => pure (.d v) := by simp [pIx, items?]
@[simp ↓] theorem x_pIx_rls (xs : List Dv) (i : Int) (ρ : VE) : pIx (.rls xs) (.int i) ρ = bR (M.opt (atI xs i) ρ) fun v => pure (.d v) := by simp [pIx, items?]
@[simp ↓] theorem x_pIx_tup (xs : List Dv) (i : Int) (ρ : VE) : pIx (.tup xs) (.int i) ρ = bR (M.opt (atI xs i) ρ) fun v => pure (.d v) := by simp [pIx, items?]
@[simp ↓] theorem x_pInB_dct (x : Dv) (kvs : List (Key × Dv)) (ρ : VE) : pInB x (.dct kvs) ρ = bR (M.opt (key? x) ρ) fun k => pure (valD kvs k).isSome := by simp [pInB]
@[simp ↓] theorem x_qLen_lst (xs : List Dv) (ρ : VE) : qLen [.lst xs] ρ = .ok (.d (.int xs.length)) ρ := by simp [qLen, items?]
@[simp ↓] theorem x_qLen_rls (xs : List Dv) (ρ : VE) : qLen [.rls xs] ρ = .ok (.d (.int xs.length)) ρ := by simp [qLen, items?]
@[simp ↓] theorem x_qLen_tup (xs : List Dv) (ρ : VE) : qLen [.tup xs] ρ = .ok (.d (.int xs.length)) ρ := by simp [qLen, items?]
@[simp ↓] theorem x_qMin2 (i j : Int) (ρ : VE) : qMin [.int i, .int j] ρ = .ok (.d (.int (if j < i then j else i))) ρ := by simp [qMin]
@[simp ↓] theorem x_qMax2 (i j : Int) (ρ : VE) : qMax [.int i, .int j] ρ = .ok (.d (.int (if j > i then j else i))) ρ := by simp [qMax]
@[simp ↓] theorem x_pSl_lst (xs : List Dv) (lo hi : Option Int) (ρ : VE) : pSl (.lst xs) lo hi ρ = .ok (.fr (.lst (cut xs lo hi))) ρ := (rfl)
@[simp ↓] theorem x_pSl_rls (xs : List Dv) (lo hi : Option Int) (ρ : VE) : pSl (.rls xs) lo hi ρ = .ok (.fr (.lst (cut xs lo hi))) ρ := (rfl)
theorem x_setSlot {ρ : VE} (i : Nat) (s : Sl) (ok bad : R Unit) : (match (ρ[i]? : Option Sl) with
  | some (Sl.mu true _) => bad
  | some _ => ok
  | none => bad) = if isIo (ρ[i]? : Option Sl) = true then bad else if i < ρ.length then ok else bad := by
  by_cases h : i < ρ.length
  · obtain ⟨s, e⟩ := get_ex h
    rw [e]
    cases s with
    | mu b d => cases b <;> simp [isIo, h]
    | _ => simp [isIo, h]
  · have e : (ρ[i]? : Option Sl) = none := List.getElem?_eq_none (by omega)
    rw [e]; simp [isIo, h]
@[simp ↓] theorem x_setS (i : Nat) (d : Dv) (ρ : VE) : setS i d ρ = if isIo (ρ[i]? : Option Sl) = true then .bad else if i < ρ.length then .ok () (ρ.set i (.val d)) else .bad := x_setSlot i (.val d) _ _
@[simp ↓] theorem x_setF (i : Nat) (d : Dv) (ρ : VE) : setF i d ρ = if isIo (ρ[i]? : Option Sl) = true then .bad else if i < ρ.length then .ok () (ρ.set i (.mu false d)) else .bad := x_setSlot i (.val d) _ _
@[simp ↓] theorem x_setO (i : Nat) (t : Ot) (ρ : VE) : setO i t ρ = if isIo (ρ[i]? : Option Sl) = true then .bad else if i < ρ.length then .ok () (ρ.set i (.ot t)) else .bad := x_setSlot i (.val (.int 0)) _ _
@[simp] theorem szle {n : Nat} (h : n ≤ 1000000) : n ≤ sizeLine := Nat.le_trans h (by decide)
@[simp] theorem szlt {n : Nat} (h : n ≤ 1000000) : n < sizeLine := Nat.lt_of_le_of_lt h (by decide)


@[simp ↓] theorem x_iRange1 (ma : M (List AV)) (ρ : VE) : iRange1 ma ρ = bR (ma ρ) fun as => conL as >>= fun ds => rg1 (ints? ds) := by
  rw [run_range1]
  cases ma ρ with
  | ok as ρ1 =>
    simp only [bR_ok]
    rw [run_bind]
    cases conL as ρ1 <;> rfl
  | exc e ρ1 => rfl
  | bad => rfl
@[simp ↓] theorem x_iRange2 (ma : M (List AV)) (ρ : VE) : iRange2 ma ρ = bR (ma ρ) fun as => conL as >>= fun ds => rg2 (ints? ds) := by
  rw [run_range2]
  cases ma ρ with
  | ok as ρ1 =>
    simp only [bR_ok]
    rw [run_bind]
    cases conL as ρ1 <;> rfl
  | exc e ρ1 => rfl
  | bad => rfl
instance {j : Int} : Decidable (R62 j) := by unfold R62; infer_instance
@[simp ↓] theorem x_rg1 (j : Int) (ρ : VE) : rg1 (some [j]) ρ = if R62 j then .ok (rng 0 j.toNat) ρ else .bad := by
  split
  · exact rg1_ok (by assumption) ρ
  · rename_i h
    show ((M.grd (-(2 ^ 62) ≤ j ∧ j < 2 ^ 62) >>= fun _ => (pure (rng 0 j.toNat) : M (List Dv))) ρ) = _
    rw [run_bind, run_grd, if_neg (show ¬ (-(2 ^ 62) ≤ j ∧ j < 2 ^ 62) from h)]
@[simp ↓] theorem x_rg2 (i j : Int) (ρ : VE) : rg2 (some [i, j]) ρ = if R62 i ∧ R62 j then .ok (rng i (j - i).toNat) ρ else .bad := by
  split
  · rename_i h; exact rg2_ok h.1 h.2 ρ
  · rename_i h
    show ((M.grd (-(2 ^ 62) ≤ i ∧ i < 2 ^ 62 ∧ -(2 ^ 62) ≤ j ∧ j < 2 ^ 62) >>= fun _ => (pure (rng i (j - i).toNat) : M (List Dv))) ρ) = _
    rw [run_bind, run_grd, if_neg fun ⟨a, b, c, d⟩ => h ⟨⟨a, b⟩, ⟨c, d⟩⟩]
@[simp] theorem R62_lit {j : Int} (h : -1000000 ≤ j) (h2 : j ≤ 1000000) : R62 j := r62 h h2
def rdK (m : M RV) (ρ : VE) (r : R RV) : R RV := match r with
  | .ok r _ => if flatRV r = true then .ok r ρ else m ρ
  | _ => m ρ
@[simp ↓] theorem x_rd (m : M RV) (ρ : VE) : rd m ρ = rdK m ρ (m (frzE ρ)) := (rfl)
@[simp] theorem rdK_bl {m : M RV} {ρ ρ' : VE} {b : Bool} : rdK m ρ (.ok (.d (.bl b)) ρ') = .ok (.d (.bl b)) ρ := (rfl)
@[simp] theorem rdK_int {m : M RV} {ρ ρ' : VE} {b : Int} : rdK m ρ (.ok (.d (.int b)) ρ') = .ok (.d (.int b)) ρ := (rfl)
@[simp] theorem frzE_nil : frzE [] = [] := (rfl)
@[simp] theorem frzE_no (ρ : VE) : frzE (.no :: ρ) = .no :: frzE ρ := (rfl)
@[simp] theorem frzE_val (d : Dv) (ρ : VE) : frzE (.val d :: ρ) = .val d :: frzE ρ := (rfl)
@[simp] theorem frzE_mu (b : Bool) (d : Dv) (ρ : VE) : frzE (.mu b d :: ρ) = .val d :: frzE ρ := (rfl)
@[simp] theorem frzE_ot (t : Ot) (ρ : VE) : frzE (.ot t :: ρ) = .val t.er :: frzE ρ := (rfl)
def trK (isa : Str → Str → Option Bool) (hs : List (Str × Option Nat × (Er → M Fl))) (r : R Fl) : R Fl := match r with
  | .ok f ρ' => .ok f ρ'
  | .exc er ρ' => tryH isa hs er ρ'
  | .bad => .bad
@[simp ↓] theorem x_sTry (isa : Str → Str → Option Bool) (hs : List (Str × Option Nat × (Er → M Fl))) (mb : M Fl) (ρ : VE) : sTry isa hs mb ρ = trK isa hs (mb ρ) := (rfl)
@[simp] theorem trK_ok {isa : Str → Str → Option Bool} {hs : List (Str × Option Nat × (Er → M Fl))} {f : Fl} {ρ : VE} : trK isa hs (.ok f ρ) = .ok f ρ := (rfl)
@[simp] theorem trK_exc {isa : Str → Str → Option Bool} {hs : List (Str × Option Nat × (Er → M Fl))} {e : Er} {ρ : VE} : trK isa hs (.exc e ρ) = tryH isa hs e ρ := (rfl)
@[simp] theorem er_fz (d : Dv) : (Ot.fz d).er = d := (rfl)
@[simp] theorem er_lst (l : List Ot) : (Ot.lst l).er = .lst (Ot.ers l) := (rfl)
@[simp] theorem er_tup (l : List Ot) : (Ot.tup l).er = .tup (Ot.ers l) := (rfl)
@[simp] theorem ers_nil : Ot.ers [] = [] := (rfl)
@[simp] theorem ers_cons (t : Ot) (r : List Ot) : Ot.ers (t :: r) = t.er :: Ot.ers r := (rfl)
@[simp] theorem ers_fzs (l : List Dv) : Ot.ers (fzs l) = l := by
  induction l with
  | nil => rfl
  | cons a l ih => show Ot.er (.fz a) :: Ot.ers (fzs l) = _; rw [ih]; rfl
/-- what a def does, told by its body -/
def fin (r : R Fl) : R RV := match r with
  | .ok (.rt (.bor i)) ρ => match ρ[i]? with
    | some (.mu false d) => .ok (.fr d) (ρ.set i .no)
    | some (.ot t) => .ok (.ow t) (ρ.set i .no)
    | some (.val d) => .ok (.d d) ρ
    | _ => .bad
  | .ok (.rt rv) ρ => .ok rv ρ
  | .ok .nx ρ => .ok (.d .non) ρ
  | .ok .bk _ => .bad
  | .ok .ct _ => .bad
  | .exc e ρ => .exc e ρ
  | .bad => .bad
theorem runB_fin (n : Nat) (b : M Fl) (sl : List Sl) : runB n b sl = fin (b (sl ++ List.replicate n Sl.no)) := rfl
@[simp ↓ high] theorem x_runB (n : Nat) (b : M Fl) (sl : List Sl) : runB n b sl = fin (b (sl ++ List.replicate n Sl.no)) := (rfl)
def finS (i : Nat) (ρ : VE) : Option Sl → R RV
  | some (.mu false d) => .ok (.fr d) (ρ.set i .no)
  | some (.ot t) => .ok (.ow t) (ρ.set i .no)
  | some (.val d) => .ok (.d d) ρ
  | _ => .bad
@[simp] theorem fin_bor (i : Nat) (ρ : VE) : fin (.ok (.rt (.bor i)) ρ) = finS i ρ ρ[i]? := by unfold fin finS; rfl
@[simp] theorem finS_mu (i : Nat) (ρ : VE) (d : Dv) : finS i ρ (some (.mu false d)) = .ok (.fr d) (ρ.set i .no) := (rfl)
@[simp] theorem finS_ot (i : Nat) (ρ : VE) (d : Ot) : finS i ρ (some (.ot d)) = .ok (.ow d) (ρ.set i .no) := (rfl)
@[simp] theorem finS_val (i : Nat) (ρ : VE) (d : Dv) : finS i ρ (some (.val d)) = .ok (.d d) ρ := (rfl)
@[simp] theorem fin_d (d : Dv) (ρ : VE) : fin (.ok (.rt (.d d)) ρ) = .ok (.d d) ρ := (rfl)
@[simp] theorem fin_fr (d : Dv) (ρ : VE) : fin (.ok (.rt (.fr d)) ρ) = .ok (.fr d) ρ := (rfl)
@[simp] theorem fin_ow (d : Ot) (ρ : VE) : fin (.ok (.rt (.ow d)) ρ) = .ok (.ow d) ρ := (rfl)
@[simp] theorem fin_nx (ρ : VE) : fin (.ok .nx ρ) = .ok (.d .non) ρ := (rfl)
@[simp] theorem fin_exc (e : Er) (ρ : VE) : fin (.exc e ρ) = .exc e ρ := (rfl)
@[simp] theorem fin_bad : fin .bad = .bad := (rfl)
/-! ### a data's text is short -/
mutual
theorem leaves_of : ∀ d : PyData, d.canLay0 = true → d.showable = true → d.leavesShort 2000 = true
  | .none, _, _ => rfl
  | .bool _, _, _ => rfl
  | .int i, _, h => by
    have h : i.natAbs.log2 < 1920 := by simpa [PyData.showable] using h
    have := int_text_length_le (a := i) (k := 1920) (by decide) h
    have e : (PyData.shown (.int i)).length = (toString i).length := PySem.ofString_length _
    simp only [PyData.leavesShort, decide_eq_true_eq, e]
    omega
  | .str x, h, _ => by
    have h : PyData.strOk x = true := by simpa [PyData.canLay0] using h
    simp only [PyData.leavesShort, List.all_eq_true, decide_eq_true_eq]
    intro c hc
    unfold PyData.strOk at h
    have := (Array.all_eq_true'.mp h) c (by simpa using hc)
    have := of_decide_eq_true this
    omega
  | .list xs, h, k => by
    simp only [PyData.leavesShort]
    exact leaves_all xs (by simpa [PyData.canLay0] using h) (by simpa [PyData.showable] using k)
  | .tuple xs, h, k => by
    simp only [PyData.leavesShort]
    exact leaves_all xs (by simpa [PyData.canLay0] using h) (by simpa [PyData.showable] using k)
  | .dict _, h, _ => by simp [PyData.canLay0] at h
theorem leaves_all : ∀ ds : List PyData, PyData.canLayAll0 ds = true → PyData.showableAll ds = true → PyData.leavesShortAll 2000 ds = true
  | [], _, _ => rfl
  | d :: ds, h, k => by
    have h' : d.canLay0 = true ∧ PyData.canLayAll0 ds = true := by simpa [PyData.canLayAll0] using h
    have k' : d.showable = true ∧ PyData.showableAll ds = true := by simpa [PyData.showableAll] using k
    rw [PyData.leavesShortAll, leaves_of d h'.1 k'.1, leaves_all ds h'.2 k'.2]; rfl
end
theorem okRepr_of {d : Dv} (h1 : isDt d = true) (h2 : dpD d ≤ 60) (h3 : (toPy d).showable = true) (h4 : (toPy d).bulk ≤ 8000) : okRepr d = true := by
  have h := PyData.shown_le_bulk 2000 (by decide) (toPy d) (leaves_of _ (canLay_toPy d h1) h3)
  have e : sizeLine = 16777216 := by decide
  have : (2000 + 2) * (toPy d).bulk ≤ 2002 * 8000 := Nat.mul_le_mul_left _ h4
  unfold okRepr
  rw [h1, h3, decide_eq_true h2, decide_eq_true (by omega)]; rfl
theorem eqable_of {d : Dv} (h1 : isDt d = true) (h2 : dpD d ≤ 60) : eqable d = true := by
  unfold eqable
  rw [h1, decide_eq_true h2]; rfl
theorem eqv_toPy {d : Dv} (h1 : isDt d = true) : PyData.eqv (toPy d) (toPy d) = true := PySem.SeqAt.eqv_refl _ (canLay_toPy d h1)
@[simp ↓] theorem x_pEqB_ll (a b : List Dv) (ρ : VE) : pEqB (.lst a) (.lst b) ρ = if eqable (.lst a) = true ∧ eqable (.lst b) = true then .ok (PyData.eqv (toPy (.lst a)) (toPy (.lst b))) ρ else .bad := by
  unfold pEqB
  simp only [run_bR, run_grd']
  split <;> rfl
@[simp] theorem isDts_iz (l : List Int) : isDts (iz l) = true := by
  induction l with
  | nil => rfl
  | cons a l ih => rw [iz_cons, isDts, ih]; rfl
@[simp] theorem dpDs_iz (l : List Int) : dpDs (iz l) = 0 := by
  induction l with
  | nil => rfl
  | cons a l ih => rw [iz_cons, dpDs, ih]; rfl
@[simp] theorem bulk_iz (l : List Int) : PyData.bulkAll (toPys (iz l)) = l.length := by
  induction l with
  | nil => rfl
  | cons a l ih => rw [iz_cons, toPys, PyData.bulkAll, ih, toPy, PyData.bulk, List.length_cons]; omega
theorem showable_iz {l : List Int} (h : ∀ z ∈ l, z.natAbs < 2 ^ 1900) : PyData.showableAll (toPys (iz l)) = true := by
  induction l with
  | nil => rfl
  | cons a l ih =>
    have : a.natAbs.log2 < 1920 := by
      have := h a List.mem_cons_self
      by_cases z : a.natAbs = 0
      · rw [z]; decide
      · exact Nat.lt_of_lt_of_le ((Nat.log2_lt z).mpr this) (by decide)
    rw [iz_cons, toPys, PyData.showableAll, ih fun z hz => h z (List.mem_cons_of_mem _ hz), toPy, PyData.showable, decide_eq_true this]; rfl
end P0
end
section
set_option Elab.async false
set_option linter.all false
set_option maxRecDepth 100000
set_option maxHeartbeats 4000000
namespace K42
open PySem L2 P0

/-! ### draws -/
theorem atI0 {α : Type} (a : α) (l : List α) : atI (a :: l) 0 = some a := by
  have := atI_at (l := a :: l) (i := 0) (by simp)
  simpa using this
theorem atI1 {α : Type} (a b : α) (l : List α) : atI (a :: b :: l) 1 = some b := by
  have := atI_at (l := a :: b :: l) (i := 1) (by simp)
  simpa using this
theorem ixN0 (n : Nat) : ixN (n + 1) 0 = some 0 := by unfold ixN; simp
theorem ixN1 (n : Nat) : ixN (n + 1 + 1) 1 = some 1 := by
  unfold ixN
  rw [if_pos (by decide), if_pos (by omega)]; rfl
theorem seqI1 (n : Nat) : seqIndex? 1 (n + 1 + 1) = some 1 := by
  unfold seqIndex?
  simp
  omega
structure Mod (m : Int) : Prop where
  pos : 0 < m
  div : ∀ i, CDivW i m
theorem Mod.of {m : Int} (h : 0 < m) (h2 : m < 2 ^ 200) : Mod m := ⟨h, fun i => ⟨h, by
  have : m.natAbs < 2 ^ 200 := by omega
  exact Nat.lt_of_lt_of_le ((Nat.log2_lt (by omega)).mpr this) (by decide)⟩⟩
theorem run_draw {p : List Int} {m : Int} (hp : p ≠ []) (hm : Mod m) : ∃ v p' s, 0 ≤ v ∧ v < m ∧ p' ≠ [] ∧ m__law_draw [.mu true (.lst (iz p)), .val (.int m)] = .ok (.d (.int v)) [.mu true (.lst (iz p')), .val (.int m), s] := by
  obtain ⟨c, rest, rfl⟩ := List.exists_cons_of_ne_nil hp
  have h0 := hm.pos
  cases rest with
  | nil =>
    refine ⟨(c + 1) % m, [c + 1], .no, Int.emod_nonneg _ (by omega), Int.emod_lt_of_pos _ h0, by simp, ?_⟩
    simp [m__law_draw, b__law_draw, atI0, ixN0, h0]
  | cons x rest =>
    have hd := hm.div x
    by_cases hq : x / m = 0
    · refine ⟨x % m, (c + 1) :: rest, .val (.int x), Int.emod_nonneg _ (by omega), Int.emod_lt_of_pos _ h0, by simp, ?_⟩
      have n1 : ¬ ((rest.length : Int) + 1 + 1 = 1) := by omega
      simp [m__law_draw, b__law_draw, atI0, atI1, ixN0, ixN1, seqI1, h0, hd, hq, n1]
    · refine ⟨x % m, (c + 1) :: (x / m) :: rest, .val (.int x), Int.emod_nonneg _ (by omega), Int.emod_lt_of_pos _ h0, by simp, ?_⟩
      have n1 : ¬ ((rest.length : Int) + 1 + 1 = 1) := by omega
      simp [m__law_draw, b__law_draw, atI0, atI1, ixN0, ixN1, h0, hd, hq, n1]
def T60 : Int := 10 ^ 60
theorem pow60 (ρ : VE) : pPow (.int 10) (.int 60) ρ = .ok (.d (.int T60)) ρ := by
  have : CPow 10 60 := ⟨by decide, by decide, by decide⟩
  simp [this]
  rfl
theorem cut63 (ns : List Int) : cut (iz ns) none (some 63) = iz (ns.take 63) := by
  unfold cut
  rw [show (some (63 : Int)) = some ((63 : Nat) : Int) from rfl, HT.sIx_nat, HT.sIx_none, iz_length]
  unfold iz
  rw [List.drop_zero, Nat.sub_zero, ← List.map_take]
  congr 1
  rw [List.take_eq_take_iff]
  omega
def absI (i : Int) : Int := if i < 0 then -i else i
theorem run_pool (ns : List Int) (hl : ns.length ≤ 1000) : ∃ ρ, m__law_pool [.val (.rls (iz ns))] = .ok (.fr (.lst (iz (0 :: (ns.take 63).map fun i => absI i % T60)))) ρ := by
  have h60 : 0 < T60 := by decide
  have hl' : (ns.take 63).length ≤ 1000 := by rw [List.length_take]; omega
  have c := compL_gen (vs := [1]) (mg := setS 1) (mt := pure true) (me := E1__law_pool) (ρ0 := [.val (.rls (iz ns)), .no]) (fun _ => true) (fun x => match x with | .int p => .int (absI p % T60) | d => d)
    (fun x => [.val (.rls (iz ns)), .val x]) (iz (ns.take 63)) [] [.val (.rls (iz ns)), .no] rfl rfl (fun x hx => by
      obtain ⟨p, hp, rfl⟩ := List.mem_map.mp hx
      refine ⟨rfl, rfl, fun _ => ?_, rfl, rfl⟩
      simp only [E1__law_pool]
      simp only [x_sub, run_bR, x_b2, x_eB, x_aC, x_aN, x_eV, x_eC]
      simp [-x_pPow_0, pow60, h60, absI]) (by
        rw [List.length_nil, Nat.zero_add, iz_length]
        exact szlt (by omega))
  have e : (iz (ns.take 63)).filter (fun _ => true) = iz (ns.take 63) := by simp
  rw [e] at c
  have e2 : ((iz (ns.take 63)).map fun x => match x with | .int p => Dv.int (absI p % T60) | d => d) = iz ((ns.take 63).map fun i => absI i % T60) := by
    unfold iz
    rw [List.map_map, List.map_map]; rfl
  rw [e2, List.nil_append] at c
  have hz : 1 + min 63 ns.length ≤ sizeLine := szle (by omega)
  simp [m__law_pool, b__law_pool, cut63, walk?, items?, c, hz]
/-! ### same -/
theorem same_refl {xs : List Dv} (h1 : isDts xs = true) (h2 : dpDs xs + 1 ≤ 60) (h3 : PyData.showableAll (toPys xs) = true) (h4 : PyData.bulkAll (toPys xs) ≤ 8000) : m__law_same [.val (.lst xs), .val (.lst xs)] = .ok (.d (.bl true)) [.val (.lst xs), .val (.lst xs)] := by
  have k1 : isDt (.lst xs) = true := by simpa [isDt] using h1
  have k2 : dpD (.lst xs) ≤ 60 := by simpa [dpD] using h2
  have k3 : (toPy (.lst xs)).showable = true := by simpa [toPy, PyData.showable] using h3
  have k4 : (toPy (.lst xs)).bulk ≤ 8000 := by simpa [toPy, PyData.bulk] using h4
  have a1 := eqable_of k1 k2
  have a2 := eqv_toPy k1
  have a3 := okRepr_of k1 k2 k3 k4
  simp [m__law_same, b__law_same, a1, a2, a3]
end K42
end
section
set_option Elab.async false
set_option linter.all false
set_option maxRecDepth 100000
set_option maxHeartbeats 4000000
namespace K42
open PySem L2 P0

/-! ### _law_heap -/
/-- a told thing that may be compared and shown -/
structure Sh (xs : List Dv) : Prop where
  h1 : isDts xs = true
  h2 : dpDs xs + 1 ≤ 60
  h3 : PyData.showableAll (toPys xs) = true
  h4 : PyData.bulkAll (toPys xs) ≤ 8000
theorem Sh.same {xs : List Dv} (h : Sh xs) : m__law_same [.val (.lst xs), .val (.lst xs)] = .ok (.d (.bl true)) [.val (.lst xs), .val (.lst xs)] := same_refl h.h1 h.h2 h.h3 h.h4
theorem rng5 : rng 0 5 = [.int 0, .int 1, .int 2, .int 3, .int 4] := by
  simp [rng, List.range_succ]
/-- what is owed and what is told, alike -/
structure Err (w t : Int) (ps : List Int) (s : Str) (xs : List Dv) : Prop where
  no : s ≠ "told"
  sh : Sh (.str s :: xs)
  due : ∃ ρ, m__law_due [.val (.int w), .val (.lst (iz ps)), .val (.int t)] = .ok (.fr (.lst (.str s :: xs))) ρ
  ask : ∀ d, Seqd d ps → ∃ ρ, m__law_ask [.val (.int w), .val d, .val (.int t)] = .ok (.fr (.lst (.str s :: xs))) ρ
inductive Env (ps : List Int) (t : Int) : VE → Prop
  | mk {s2 s3 s4 s5 : Sl} : isIo (some s2) = false → isIo (some s3) = false → isIo (some s4) = false → isIo (some s5) = false → Env ps t [.val (.lst (iz ps)), .val (.int t), s2, s3, s4, s5]
theorem turn_err {w t : Int} {ps : List Int} {s : Str} {xs : List Dv} (hp : Sh (iz ps)) (h : Err w t ps s xs) {s3 s4 s5 : Sl} (h3 : isIo (some s3) = false) (h4 : isIo (some s4) = false) (h5 : isIo (some s5) = false) :
    ∃ ρ, L1__law_heap [.val (.lst (iz ps)), .val (.int t), .val (.int w), s3, s4, s5] = .ok .nx ρ ∧ Env ps t ρ := by
  obtain ⟨ρ1, e1⟩ := h.due
  obtain ⟨ρ2, e2⟩ := h.ask _ (.lst ps)
  obtain ⟨ρ3, e3⟩ := h.ask _ (.tup ps)
  have e4 := h.sh.same
  have e5 := hp.same
  have n := h.no
  by_cases w3 : w = 3
  · subst w3
    simp [L1__law_heap, e1, e2, e3, e4, e5, h3, h4, h5, n, atI0, items?]
    exact .mk rfl rfl rfl rfl
  · by_cases w4 : w = 4
    · subst w4
      simp [L1__law_heap, e1, e2, e3, e4, e5, h3, h4, h5, n, atI0, items?]
      exact .mk rfl rfl rfl rfl
    · simp [L1__law_heap, e1, e2, e3, e4, e5, h3, h4, h5, n, atI0, items?, w3, w4]
      exact .mk rfl rfl rfl rfl
/-- told a flat thing -/
structure TF (w t : Int) (ps : List Int) (d : Dv) : Prop where
  sh : Sh [.str "told", d]
  due : ∃ ρ, m__law_due [.val (.int w), .val (.lst (iz ps)), .val (.int t)] = .ok (.fr (.lst [.str "told", d])) ρ
  ask : ∀ e, Seqd e ps → ∃ ρ, m__law_ask [.val (.int w), .val e, .val (.int t)] = .ok (.ow (.lst [.fz (.str "told"), .fz d])) ρ
theorem turn_flat {w t : Int} {ps : List Int} {d : Dv} (w3 : w ≠ 3) (w4 : w ≠ 4) (hp : Sh (iz ps)) (h : TF w t ps d) {s3 s4 s5 : Sl} (h3 : isIo (some s3) = false) (h4 : isIo (some s4) = false) (h5 : isIo (some s5) = false) :
    ∃ ρ, L1__law_heap [.val (.lst (iz ps)), .val (.int t), .val (.int w), s3, s4, s5] = .ok .nx ρ ∧ Env ps t ρ := by
  obtain ⟨ρ1, e1⟩ := h.due
  obtain ⟨ρ2, e2⟩ := h.ask _ (.lst ps)
  obtain ⟨ρ3, e3⟩ := h.ask _ (.tup ps)
  have e4 := h.sh.same
  have e5 := hp.same
  simp [L1__law_heap, e1, e2, e3, e4, e5, h3, h4, h5, items?, w3, w4]
  exact .mk rfl rfl rfl rfl
structure T3 (t : Int) (ps : List Int) (xs : List Dv) : Prop where
  sh : Sh [.str "told", .lst xs]
  len : xs.length ≤ 1000
  due : ∃ ρ, m__law_due [.val (.int 3), .val (.lst (iz ps)), .val (.int t)] = .ok (.fr (.lst [.str "told", .lst xs])) ρ
  ask : ∀ e, Seqd e ps → ∃ ρ, m__law_ask [.val (.int 3), .val e, .val (.int t)] = .ok (.ow (.lst [.fz (.str "told"), .lst (fzs xs)])) ρ
theorem turn_3 {t : Int} {ps : List Int} {xs : List Dv} (hp : Sh (iz ps)) (h : T3 t ps xs) {s3 s4 s5 : Sl} (h3 : isIo (some s3) = false) (h4 : isIo (some s4) = false) (h5 : isIo (some s5) = false) :
    ∃ ρ, L1__law_heap [.val (.lst (iz ps)), .val (.int t), .val (.int 3), s3, s4, s5] = .ok .nx ρ ∧ Env ps t ρ := by
  obtain ⟨ρ1, e1⟩ := h.due
  obtain ⟨ρ2, e2⟩ := h.ask _ (.lst ps)
  obtain ⟨ρ3, e3⟩ := h.ask _ (.tup ps)
  have e4 := h.sh.same
  have e5 := hp.same
  have hl : (fzs xs).length < sizeLine := by unfold fzs; rw [List.length_map]; exact szlt (by have := h.len; omega)
  simp [L1__law_heap, e1, e2, e3, e4, e5, h3, h4, h5, items?, atI0, atI1, hl, pS, pN, xC, subT, putT]
  exact .mk rfl rfl rfl rfl
end K42
end
section
set_option Elab.async false
set_option linter.all false
set_option maxRecDepth 100000
set_option maxHeartbeats 4000000
set_option exponentiation.threshold 5000
namespace K42
open PySem L2 P0

structure T4 (t : Int) (ps : List Int) (xs ys : List Dv) : Prop where
  sh : Sh [.str "told", .tup [.lst xs, .lst ys]]
  lx : xs.length ≤ 1000
  ly : ys.length ≤ 1000
  due : ∃ ρ, m__law_due [.val (.int 4), .val (.lst (iz ps)), .val (.int t)] = .ok (.fr (.lst [.str "told", .tup [.lst xs, .lst ys]])) ρ
  ask : ∀ e, Seqd e ps → ∃ ρ, m__law_ask [.val (.int 4), .val e, .val (.int t)] = .ok (.ow (.lst [.fz (.str "told"), .tup [.lst (fzs xs), .lst (fzs ys)]])) ρ
theorem turn_4 {t : Int} {ps : List Int} {xs ys : List Dv} (hp : Sh (iz ps)) (h : T4 t ps xs ys) {s3 s4 s5 : Sl} (h3 : isIo (some s3) = false) (h4 : isIo (some s4) = false) (h5 : isIo (some s5) = false) :
    ∃ ρ, L1__law_heap [.val (.lst (iz ps)), .val (.int t), .val (.int 4), s3, s4, s5] = .ok .nx ρ ∧ Env ps t ρ := by
  obtain ⟨ρ1, e1⟩ := h.due
  obtain ⟨ρ2, e2⟩ := h.ask _ (.lst ps)
  obtain ⟨ρ3, e3⟩ := h.ask _ (.tup ps)
  have e4 := h.sh.same
  have e5 := hp.same
  have hl : (fzs xs).length < sizeLine := by unfold fzs; rw [List.length_map]; exact szlt (by have := h.lx; omega)
  have hl2 : (fzs ys).length < sizeLine := by unfold fzs; rw [List.length_map]; exact szlt (by have := h.ly; omega)
  simp [L1__law_heap, e1, e2, e3, e4, e5, h3, h4, h5, items?, atI0, atI1, ixN0, ixN1, hl, hl2, pS, pN, xC, subT, putT]
  exact .mk rfl rfl rfl rfl
theorem heap_loop {ps : List Int} {t : Int} (h : ∀ w s3 s4 s5, 0 ≤ w → w < 5 → isIo (some s3) = false → isIo (some s4) = false → isIo (some s5) = false →
    ∃ ρ, L1__law_heap [.val (.lst (iz ps)), .val (.int t), .val (.int w), s3, s4, s5] = .ok .nx ρ ∧ Env ps t ρ) : ∀ (ws : List Int) (ρ : VE), (∀ w ∈ ws, 0 ≤ w ∧ w < 5) → Env ps t ρ → ∃ ρ', forL (setS 2) L1__law_heap (iz ws) ρ = .ok .nx ρ'
  | [], ρ, _, _ => ⟨ρ, rfl⟩
  | w :: ws, _, hw, .mk h2 h3 h4 h5 => by
    obtain ⟨w0, w5⟩ := hw w List.mem_cons_self
    obtain ⟨ρ, e, he⟩ := h w _ _ _ w0 w5 h3 h4 h5
    obtain ⟨ρ', ih⟩ := heap_loop h ws ρ (fun x hx => hw x (List.mem_cons_of_mem _ hx)) he
    refine ⟨ρ', ?_⟩
    rw [iz_cons, forL_nx (ρ1 := [.val (.lst (iz ps)), .val (.int t), .val (.int w), _, _, _]) (by simp [h2]) e]
    exact ih
theorem heap_of {ps : List Int} {t : Int} (h : ∀ w s3 s4 s5, 0 ≤ w → w < 5 → isIo (some s3) = false → isIo (some s4) = false → isIo (some s5) = false →
    ∃ ρ, L1__law_heap [.val (.lst (iz ps)), .val (.int t), .val (.int w), s3, s4, s5] = .ok .nx ρ ∧ Env ps t ρ) : ∃ ρ, m__law_heap [.val (.lst (iz ps)), .val (.int t)] = .ok (.d (.bl true)) ρ := by
  obtain ⟨ρ', e⟩ := heap_loop h [0, 1, 2, 3, 4] [.val (.lst (iz ps)), .val (.int t), .no, .no, .no, .no] (by simp) (.mk rfl rfl rfl rfl)
  have e : forL (setS 2) L1__law_heap [.int 0, .int 1, .int 2, .int 3, .int 4] [.val (.lst (iz ps)), .val (.int t), .no, .no, .no, .no] = .ok .nx ρ' := e
  simp [m__law_heap, b__law_heap, R1__law_heap, rng5, e]
/-! ### what is asked is what is due -/
def Fit (ps : List Int) : Prop := ps.length ≤ 1000 ∧ ∀ z ∈ ps, z.natAbs < 2 ^ 1000
theorem big19 {z : Int} (h : z.natAbs < 2 ^ 1000) : z.natAbs < 2 ^ 1900 := Nat.lt_of_lt_of_le h (Nat.pow_le_pow_right (by decide) (by decide))
theorem Fit.sh {ps : List Int} (h : Fit ps) : Sh (iz ps) := ⟨by simp, by simp, showable_iz fun z hz => big19 (h.2 z hz), by have := h.1; simp; omega⟩
theorem showI {z : Int} (h : z.natAbs < 2 ^ 1000) : (PyData.int z).showable = true := by
  have := showable_iz (l := [z]) (by intro y hy; rw [List.mem_singleton.mp hy]; exact big19 h)
  simpa [toPys, toPy, PyData.showableAll] using this
theorem sO : ∀ s : Str, s = "told" ∨ s = "root" ∨ s = "number" ∨ s = "size" → PyData.strOk s = true ∧ s.cps.size ≤ 10 := by
  rintro s (rfl | rfl | rfl | rfl) <;> decide +kernel
theorem sh_flat {s : Str} {d : Dv} (hs : PyData.strOk s = true ∧ s.cps.size ≤ 10) (h1 : isDt d = true) (h2 : dpD d ≤ 50) (h3 : (toPy d).showable = true) (h4 : (toPy d).bulk ≤ 7000) : Sh [.str s, d] := by
  refine ⟨?_, ?_, ?_, ?_⟩
  · simp [isDts, isDt, hs.1, h1]
  · simp [dpDs, dpD]; omega
  · simp [toPys, toPy, PyData.showableAll, PyData.showable, h3]
  · simp only [toPys, toPy, PyData.bulkAll, PyData.bulk]; omega
theorem sh_3 {s : Str} {d e : Dv} (hs : PyData.strOk s = true ∧ s.cps.size ≤ 10) (h1 : isDt d = true) (h2 : dpD d ≤ 50) (h3 : (toPy d).showable = true) (h4 : (toPy d).bulk ≤ 3000) (k1 : isDt e = true) (k2 : dpD e ≤ 50) (k3 : (toPy e).showable = true) (k4 : (toPy e).bulk ≤ 3000) : Sh [.str s, d, e] := by
  refine ⟨?_, ?_, ?_, ?_⟩
  · simp [isDts, isDt, hs.1, h1, k1]
  · simp [dpDs, dpD]; omega
  · simp [toPys, toPy, PyData.showableAll, PyData.showable, h3, k3]
  · simp only [toPys, toPy, PyData.bulkAll, PyData.bulk]; omega
theorem sh_4 {s : Str} {d e f : Dv} (hs : PyData.strOk s = true ∧ s.cps.size ≤ 10) (h1 : isDt d = true) (h2 : dpD d ≤ 50) (h3 : (toPy d).showable = true) (h4 : (toPy d).bulk ≤ 1000) (k1 : isDt e = true) (k2 : dpD e ≤ 50) (k3 : (toPy e).showable = true) (k4 : (toPy e).bulk ≤ 1000) (l1 : isDt f = true) (l2 : dpD f ≤ 50) (l3 : (toPy f).showable = true) (l4 : (toPy f).bulk ≤ 1000) : Sh [.str s, d, e, f] := by
  refine ⟨?_, ?_, ?_, ?_⟩
  · simp [isDts, isDt, hs.1, h1, k1, l1]
  · simp [dpDs, dpD]; omega
  · simp [toPys, toPy, PyData.showableAll, PyData.showable, h3, k3, l3]
  · simp only [toPys, toPy, PyData.bulkAll, PyData.bulk]; omega
end K42
end
section
set_option Elab.async false
set_option linter.all false
set_option maxRecDepth 100000
set_option maxHeartbeats 4000000
set_option exponentiation.threshold 5000
namespace K42
open PySem L2 P0

theorem fF_lt : ∀ (l : List Bool) (k i : Nat), fF l k = some i → k ≤ i ∧ i < k + l.length
  | [], k, i, h => by cases h
  | false :: l, k, i, h => by
    rw [fF] at h
    cases h
    simp
  | true :: l, k, i, h => by
    rw [fF] at h
    have := fF_lt l (k + 1) i h
    rw [List.length_cons]
    omega
theorem astO_lt {ps : List Int} (hne : ps ≠ []) {i : Nat} (h : astO ps = some i) : i < ps.length := by
  have hl := List.length_pos_iff.mpr hne
  unfold astO at h
  split at h
  · have := fF_lt _ _ _ h
    rw [List.length_map, onG_length, List.length_nil] at this
    omega
  · cases h; omega
theorem lvS_le {B : Int} (hB : 0 ≤ B) (p : Int) : ∀ (acc : List (Int × Int)) (h : Int), 0 ≤ h → h ≤ B + 2 → (∀ q ∈ acc, q.2 ≤ B) →
    0 ≤ acc.foldl (fun h q => if near q.1 p = true then max h (q.2 + 2 - (if q.1 - p < 0 then -(q.1 - p) else q.1 - p)) else h) h ∧
    acc.foldl (fun h q => if near q.1 p = true then max h (q.2 + 2 - (if q.1 - p < 0 then -(q.1 - p) else q.1 - p)) else h) h ≤ B + 2
  | [], h, h0, h1, _ => ⟨h0, h1⟩
  | q :: acc, h, h0, h1, hq => by
    have hq0 := hq q List.mem_cons_self
    rw [List.foldl_cons]
    refine lvS_le hB p acc _ ?_ ?_ fun x hx => hq x (List.mem_cons_of_mem _ hx)
    · split
      · omega
      · omega
    · split
      · split <;> omega
      · omega
theorem lvG_le : ∀ (ps : List Int) (acc : List (Int × Int)) (B : Int), 0 ≤ B → (∀ q ∈ acc, 0 ≤ q.2 ∧ q.2 ≤ B) → ∀ q ∈ lvG acc ps, 0 ≤ q.2 ∧ q.2 ≤ B + 2 * ps.length
  | [], acc, B, hB, h => fun q hq => by
    have := h q hq
    simp
    omega
  | p :: ps, acc, B, hB, h => fun q hq => by
    rw [lvG] at hq
    have b := lvS_le hB p acc 0 (by omega) (by omega) fun x hx => (h x hx).2
    have := lvG_le ps _ (B + 2) (by omega) (fun x hx => by
      rcases List.mem_append.mp hx with hx | hx
      · have := h x hx; omega
      · rw [List.mem_singleton.mp hx]; exact b) q hq
    rw [List.length_cons]
    omega
theorem lvG_length : ∀ (ps : List Int) (acc : List (Int × Int)), (lvG acc ps).length = acc.length + ps.length
  | [], acc => rfl
  | p :: ps, acc => by rw [lvG, lvG_length ps]; simp; omega
theorem small {z : Int} (h0 : -1000 ≤ z) (h1 : z ≤ 1000) : z.natAbs < 2 ^ 1000 := by
  have : z.natAbs < 2 ^ 10 := by omega
  exact Nat.lt_of_lt_of_le this (Nat.pow_le_pow_right (by decide) (by decide))
theorem small1 {z : Int} (h0 : -1000 ≤ z) (h1 : z ≤ 1000) : z.natAbs < 2 ^ 1900 := big19 (small h0 h1)
theorem levels_fit {ps : List Int} (hl : ps.length ≤ 60) : ∀ z ∈ (lvG [] ps).map (·.2), z.natAbs < 2 ^ 1900 := fun z hz => by
  obtain ⟨q, hq, rfl⟩ := List.mem_map.mp hz
  have := lvG_le ps [] 0 (by omega) (by simp) q hq
  exact small1 (by omega) (by omega)
theorem onG_mem (t : Int) (ps : List Int) {z : Int} {b : Bool} (h : z ∈ pick b (onG t [] ps)) : z ∈ ps := by
  unfold pick at h
  obtain ⟨q, hq, rfl⟩ := List.mem_map.mp h
  have hf : (onG t [] ps).map (·.1) = ps := by rw [onG_fst]; rfl
  rw [← hf]
  exact List.mem_map.mpr ⟨q, (List.mem_filter.mp hq).1, rfl⟩
theorem pick_len (t : Int) (ps : List Int) (b : Bool) : (pick b (onG t [] ps)).length ≤ ps.length := by
  unfold pick
  rw [List.length_map]
  refine Nat.le_trans (List.length_filter_le _ _) ?_
  rw [onG_length]; simp
theorem err_size {w t : Int} {ps : List Int} (hw : 0 ≤ w ∧ w < 5) (hf : Fit ps) (h : ps.length < 1 ∨ 60 < ps.length) : Err w t ps "size" [.int ps.length, .bl false] := by
  refine ⟨by decide +kernel, sh_3 (sO _ (by simp)) rfl (by simp [dpD]) (showI (small (by omega) (by have := hf.1; omega))) (by simp [toPy, PyData.bulk]) rfl (by simp [dpD]) rfl (by simp [toPy, PyData.bulk]), due_size h, fun d hd => ?_⟩
  obtain ⟨ρ, e⟩ := exc1_check_places hd h
  obtain ⟨⟨_, a0⟩, ⟨_, a1⟩, ⟨_, a2⟩, ⟨_, a3⟩, ⟨_, a4⟩⟩ := exc_all e t
  have hc : w = 0 ∨ w = 1 ∨ w = 2 ∨ w = 3 ∨ w = 4 := by omega
  rcases hc with rfl | rfl | rfl | rfl | rfl
  · exact ask_size0 a0
  · exact ask_size1 a1
  · exact ask_size2 a2
  · exact ask_size3 a3
  · exact ask_size4 a4
theorem wrong_mem {ps : List Int} {p : Int} (h : wrong ps = some p) : p ∈ ps := List.mem_of_find?_eq_some h
theorem sh_num {s : Str} {p : Int} (hs : PyData.strOk s = true ∧ s.cps.size ≤ 10) (hp : p.natAbs < 2 ^ 1000) : Sh [.str s, .int p, .bl false] :=
  sh_3 hs rfl (by simp [dpD]) (showI hp) (by simp [toPy, PyData.bulk]) rfl (by simp [dpD]) rfl (by simp [toPy, PyData.bulk])
theorem err_num {w t p : Int} {ps : List Int} (hw : 0 ≤ w ∧ w < 5) (hf : Fit ps) (h1 : 1 ≤ ps.length) (h2 : ps.length ≤ 60) (h : wrong ps = some p) : Err w t ps "number" [.int p, .bl false] := by
  refine ⟨by decide +kernel, sh_num (sO _ (by simp)) (hf.2 p (wrong_mem h)), due_number h1 h2 h, fun d hd => ?_⟩
  obtain ⟨ρ, e⟩ := exc2_check_places hd h1 h2 h
  obtain ⟨⟨_, a0⟩, ⟨_, a1⟩, ⟨_, a2⟩, ⟨_, a3⟩, ⟨_, a4⟩⟩ := exc_all e t
  have hc : w = 0 ∨ w = 1 ∨ w = 2 ∨ w = 3 ∨ w = 4 := by omega
  rcases hc with rfl | rfl | rfl | rfl | rfl
  · exact ask_num0 a0
  · exact ask_num1 a1
  · exact ask_num2 a2
  · exact ask_num3 a3
  · exact ask_num4 a4
section
variable {ps : List Int} {t : Int}
theorem good_of {d : Dv} (h1 : 1 ≤ ps.length) (h2 : ps.length ≤ 60) (hw : wrong ps = none) (hd : Seqd d ps) : Good d ps := ⟨hd, h1, h2, hw⟩
theorem tf_bool {w : Int} {b : Bool} (hd : ∃ ρ, m__law_due [.val (.int w), .val (.lst (iz ps)), .val (.int t)] = .ok (.fr (.lst [.str "told", .bl b])) ρ)
    (ha : ∀ e, Seqd e ps → ∃ ρ, m__law_ask [.val (.int w), .val e, .val (.int t)] = .ok (.ow (.lst [.fz (.str "told"), .fz (.bl b)])) ρ) : TF w t ps (.bl b) :=
  ⟨sh_flat (sO _ (by simp)) rfl (by simp [dpD]) rfl (by simp [toPy, PyData.bulk]), hd, ha⟩
theorem heap_true (hf : Fit ps) (ht : t.natAbs < 2 ^ 1000) : ∃ ρ, m__law_heap [.val (.lst (iz ps)), .val (.int t)] = .ok (.d (.bl true)) ρ := by
  refine heap_of fun w s3 s4 s5 w0 w5 h3 h4 h5 => ?_
  by_cases hz : ps.length < 1 ∨ 60 < ps.length
  · exact turn_err hf.sh (err_size ⟨w0, w5⟩ hf hz) h3 h4 h5
  · have l1 : 1 ≤ ps.length := by omega
    have l2 : ps.length ≤ 60 := by omega
    cases hw : wrong ps with
    | some p => exact turn_err hf.sh (err_num ⟨w0, w5⟩ hf l1 l2 hw) h3 h4 h5
    | none =>
      have G : ∀ {d : Dv}, Seqd d ps → Good d ps := fun hd => good_of l1 l2 hw hd
      have g := G (.lst ps)
      have hc : w = 0 ∨ w = 1 ∨ w = 2 ∨ w = 3 ∨ w = 4 := by omega
      rcases hc with rfl | rfl | rfl | rfl | rfl
      · exact turn_flat (by decide) (by decide) hf.sh (tf_bool (due0 g) fun e he => let ⟨_, q⟩ := run_is_pyramid (G he); ask_told0 q) h3 h4 h5
      · refine turn_flat (by decide) (by decide) hf.sh (tf_bool (due1 g) fun e he => ?_) h3 h4 h5
        obtain ⟨_, q⟩ := run_is_strict he l1 l2 hw g.b
        rw [Bool.and_comm] at q
        exact ask_told1 q
      · exact turn_flat (by decide) (by decide) hf.sh (tf_bool (due2 g) fun e he => let ⟨_, q⟩ := run_is_half (G he); ask_told2 q) h3 h4 h5
      · cases ha : astO ps with
        | none =>
          refine turn_3 hf.sh (xs := iz ((lvG [] ps).map (·.2))) ⟨?_, ?_, due3 g ha, fun e he => let ⟨_, q⟩ := run_levels (G he) ha; ask_told3 q⟩ h3 h4 h5
          · exact sh_flat (sO _ (by simp)) (by simp [isDt]) (by simp [dpD]) (by simpa [toPy, PyData.showable] using showable_iz (levels_fit l2)) (by
              have := lvG_length ps []
              simp [toPy, PyData.bulk, this]; omega)
          · rw [iz_length, List.length_map, lvG_length]; simp; omega
        | some i =>
          have hi := astO_lt g.ne ha
          obtain ⟨p, hp, hd⟩ := due3r (t := t) g ha hi
          have hpm : p ∈ ps := List.mem_of_getElem? hp
          refine turn_err hf.sh (s := "root") (xs := [.int i, .int p, .bl false]) ⟨by decide +kernel, ?_, hd, fun e he => let ⟨_, q⟩ := exc_levels (G he) ha hp; ask_root q⟩ h3 h4 h5
          exact sh_4 (sO _ (by simp)) rfl (by simp [dpD]) (showI (small (by omega) (by omega))) (by simp [toPy, PyData.bulk]) rfl (by simp [dpD]) (showI (hf.2 p hpm)) (by simp [toPy, PyData.bulk]) rfl (by simp [dpD]) rfl (by simp [toPy, PyData.bulk])
      · by_cases h : t < 0 ∨ (ps.length : Int) ≤ t
        · refine turn_err hf.sh (s := "number") (xs := [.int t, .bl false]) ⟨by decide +kernel, sh_num (sO _ (by simp)) ht, due4n g h, fun e he => ?_⟩ h3 h4 h5
          obtain ⟨_, q⟩ := exc_pushed (t := t) (G he) (by omega)
          exact ask_num4 q
        · obtain ⟨n, rfl⟩ : ∃ n : Nat, t = n := ⟨t.toNat, by omega⟩
          have hn : n < ps.length := by omega
          refine turn_4 hf.sh (xs := iz (pick false (onG n [] ps))) (ys := iz (pick true (onG n [] ps))) ⟨?_, ?_, ?_, due4y g hn, fun e he => ?_⟩ h3 h4 h5
          · have k1 := pick_len n ps false
            have k2 := pick_len n ps true
            exact sh_flat (sO _ (by simp)) (by simp [isDt, isDts]) (by simp [dpD, dpDs]) (by
              simp only [toPy, toPys, PyData.showable, PyData.showableAll, Bool.and_true, Bool.and_eq_true]
              exact ⟨showable_iz fun z hz => big19 (hf.2 z (onG_mem _ _ hz)), showable_iz fun z hz => big19 (hf.2 z (onG_mem _ _ hz))⟩) (by
              simp [toPy, toPys, PyData.bulk, PyData.bulkAll]; omega)
          · have := pick_len n ps false; rw [iz_length]; omega
          · have := pick_len n ps true; rw [iz_length]; omega
          · obtain ⟨_, q⟩ := run_pushed (t := n) (G he) (by omega) (by omega)
            exact ask_told4 q
end
end K42
end
section
set_option Elab.async false
set_option linter.all false
set_option maxRecDepth 100000
set_option maxHeartbeats 4000000
set_option exponentiation.threshold 5000
namespace K42
open PySem L2 P0

theorem mem_at {l : List Int} {v : Int} (h0 : 0 ≤ v) (h1 : v < l.length) : ∃ y ∈ l, atI (iz l) v = some (.int y) := by
  obtain ⟨n, rfl⟩ : ∃ n : Nat, v = n := ⟨v.toNat, by omega⟩
  have hn : n < l.length := by omega
  refine ⟨l[n], List.getElem_mem hn, ?_⟩
  rw [atI_iz, atI_at hn]; rfl
/-- a pyramid, no place below the least one -/
structure Pyr (least : Int) (ps : List Int) : Prop where
  hd : ps.head? = some 0
  on : ∀ q ∈ onG 0 [] ps, q.2 = true
  lo : ∀ z ∈ ps, least ≤ z
  b : ∀ z ∈ ps, -(ps.length : Int) < z ∧ z < (ps.length : Int)
theorem Pyr.ne {least : Int} {ps : List Int} (h : Pyr least ps) : ps ≠ [] := fun z => by have := h.hd; rw [z] at this; cases this
theorem pyr0 {least : Int} (h : least ≤ 0) : Pyr least [0] := by
  refine ⟨rfl, ?_, ?_, ?_⟩
  · simp [onG, lieS]
  · simpa using h
  · simp
theorem Pyr.next {least : Int} {ps : List Int} (h : Pyr least ps) {y x : Int} (hy : y ∈ ps) (h1 : y - 1 ≤ x) (h2 : x ≤ y + 1) (h3 : least ≤ x) : Pyr least (ps ++ [x]) := by
  refine ⟨?_, ?_, ?_, ?_⟩
  · have := h.hd
    cases ps with
    | nil => cases this
    | cons a l => exact this
  · intro q hq
    rw [onG_append, onG, onG] at hq
    rcases List.mem_append.mp hq with hq | hq
    · exact h.on q hq
    · rw [List.mem_singleton.mp hq]
      show lieS 0 (onG 0 [] ps) x = true
      unfold lieS
      have hf : (onG 0 [] ps).map (·.1) = ps := by rw [onG_fst]; rfl
      rw [← hf] at hy
      obtain ⟨q, hq, rfl⟩ := List.mem_map.mp hy
      have : ((onG 0 [] ps).any fun p => p.2 && near p.1 x) = true := List.any_eq_true.mpr ⟨q, hq, by
        rw [h.on q hq]
        unfold near
        simp only [Bool.true_and, Bool.and_eq_true, decide_eq_true_eq]
        omega⟩
      rw [this, Bool.or_true]
  · intro z hz
    rcases List.mem_append.mp hz with hz | hz
    · exact h.lo z hz
    · rw [List.mem_singleton.mp hz]; exact h3
  · intro z hz
    have hb := h.b y hy
    rw [List.length_append, List.length_singleton]
    rcases List.mem_append.mp hz with hz | hz
    · have := h.b z hz; omega
    · rw [List.mem_singleton.mp hz]; omega
theorem fF_true : ∀ (l : List Bool) (k : Nat), (∀ b ∈ l, b = true) → fF l k = none
  | [], _, _ => rfl
  | false :: l, k, h => by cases h false List.mem_cons_self
  | true :: l, k, h => fF_true l (k + 1) fun b hb => h b (List.mem_cons_of_mem _ hb)
theorem Pyr.ast {least : Int} {ps : List Int} (h : Pyr least ps) : astO ps = none := by
  unfold astO
  rw [if_pos h.hd]
  exact fF_true _ _ fun b hb => by
    obtain ⟨q, hq, rfl⟩ := List.mem_map.mp hb
    exact h.on q hq
theorem Pyr.wrong {least : Int} {ps : List Int} (h : Pyr least ps) (hl : ps.length ≤ 60) : wrong ps = none := by
  unfold K42.wrong
  rw [List.find?_eq_none]
  intro z hz
  have := h.b z hz
  simp
  omega
theorem Pyr.fit {least : Int} {ps : List Int} (h : Pyr least ps) (hl : ps.length ≤ 60) : Fit ps := ⟨by omega, fun z hz => by
  have := h.b z hz
  exact small (by omega) (by omega)⟩
theorem py_turn {size least : Int} {p ps : List Int} {k : Int} {s5 : Sl} (hp : p ≠ []) (hJ : Pyr least ps) (hl : ps.length ≤ 1000) (h5 : isIo (some s5) = false) :
    ∃ p' ps' s5', p' ≠ [] ∧ ps'.length = ps.length + 1 ∧ Pyr least ps' ∧ isIo (some s5') = false ∧
      L1__law_pyramid [.mu true (.lst (iz p)), .val (.int size), .val (.int least), .mu false (.lst (iz ps)), .val (.int k), s5] =
        .ok .nx [.mu true (.lst (iz p')), .val (.int size), .val (.int least), .mu false (.lst (iz ps')), .val (.int k), s5'] := by
  have l0 := List.length_pos_iff.mpr hJ.ne
  obtain ⟨v, p1, s, v0, v1, n1, e1⟩ := run_draw (m := ps.length) hp (Mod.of (by omega) (by omega))
  obtain ⟨y, hy, ey⟩ := mem_at v0 v1
  obtain ⟨w, p2, s', w0, w1, n2, e2⟩ := run_draw (m := 3) n1 (Mod.of (by decide) (by decide))
  have hz : ps.length < sizeLine := szlt (by omega)
  have hlo := hJ.lo y hy
  generalize hN : (ps.length : Int) = N at *
  refine ⟨p2, ps ++ [if y + w - 1 > least then y + w - 1 else least], .val (.int y), n2, by simp, hJ.next hy (by split <;> omega) (by split <;> omega) (by split <;> omega), rfl, ?_⟩
  simp [L1__law_pyramid, h5, hN, e1, e2, ey, hz]
theorem py_loop {size least : Int} : ∀ (n : Nat) (lo : Int) (p ps : List Int) (s4 s5 : Sl), p ≠ [] → Pyr least ps → ps.length + n ≤ 1000 → isIo (some s4) = false → isIo (some s5) = false →
    ∃ p' ps' s4' s5', p' ≠ [] ∧ ps'.length = ps.length + n ∧ Pyr least ps' ∧
      forL (setS 4) L1__law_pyramid (rng lo n) [.mu true (.lst (iz p)), .val (.int size), .val (.int least), .mu false (.lst (iz ps)), s4, s5] =
        .ok .nx [.mu true (.lst (iz p')), .val (.int size), .val (.int least), .mu false (.lst (iz ps')), s4', s5']
  | 0, lo, p, ps, s4, s5, hp, hJ, hl, h4, h5 => ⟨p, ps, s4, s5, hp, rfl, hJ, rfl⟩
  | n + 1, lo, p, ps, s4, s5, hp, hJ, hl, h4, h5 => by
    obtain ⟨p1, ps1, s5', n1, l1, J1, i5, e⟩ := py_turn (size := size) (k := lo) hp hJ (by omega) h5
    obtain ⟨p2, ps2, s4', s5'', n2, l2, J2, e2⟩ := py_loop n (lo + 1) p1 ps1 (.val (.int lo)) s5' n1 J1 (by omega) rfl i5
    refine ⟨p2, ps2, s4', s5'', n2, by omega, J2, ?_⟩
    rw [rng_succ, forL_nx (ρ1 := [.mu true (.lst (iz p)), .val (.int size), .val (.int least), .mu false (.lst (iz ps)), .val (.int lo), s5]) (by simp [h4]) e]
    exact e2
theorem run_pyramid {p : List Int} {size least : Int} (hp : p ≠ []) (h1 : 1 ≤ size) (h2 : size ≤ 60) (h3 : least ≤ 0) :
    ∃ ps p' ρ, p' ≠ [] ∧ (ps.length : Int) = size ∧ Pyr least ps ∧ m__law_pyramid [.mu true (.lst (iz p)), .val (.int size), .val (.int least)] = .ok (.fr (.lst (iz ps))) (.mu true (.lst (iz p')) :: ρ) := by
  obtain ⟨p', ps', s4, s5, n, l, J, e⟩ := py_loop (size := size) (size - 1).toNat 0 p [0] .no .no hp (pyr0 h3) (by simp; omega) rfl rfl
  have e : forL (setS 4) L1__law_pyramid (rng 0 (size - 1).toNat) [.mu true (.lst (iz p)), .val (.int size), .val (.int least), .mu false (.lst [.int 0]), .no, .no] = _ := e
  have g := rg1_ok (j := size - 1) (r62 (by omega) (by omega))
  simp only [List.length_cons, List.length_nil] at l
  have hs : (ps'.length : Int) = size := by omega
  generalize (size - 1).toNat = m at *
  refine ⟨ps', p', [.val (.int size), .val (.int least), .no, s4, s5], n, hs, J, ?_⟩
  simp [m__law_pyramid, b__law_pyramid, R1__law_pyramid, R2__law_pyramid, -x_rg1, g, e]
end K42
end
section
set_option Elab.async false
set_option linter.all false
set_option maxRecDepth 100000
set_option maxHeartbeats 4000000
set_option exponentiation.threshold 5000
namespace K42
open PySem L2 P0

/-! ### the other heaps -/
theorem cmul2 {v : Int} (h0 : 0 ≤ v) (h1 : v < 2) : CMulW 2 v := by
  have : v = 0 ∨ v = 1 := by omega
  rcases this with rfl | rfl <;> (unfold CMulW; decide)
/-- all its places lie within b -/
def In (b : Int) (ps : List Int) : Prop := ∀ z ∈ ps, -b ≤ z ∧ z ≤ b
theorem In.fit {b : Int} {ps : List Int} (h : In b ps) (hl : ps.length ≤ 1000) (hb : b < 2 ^ 900) : Fit ps := ⟨hl, fun z hz => by
  have := h z hz
  have : z.natAbs < 2 ^ 900 := by omega
  exact Nat.lt_of_lt_of_le this (Nat.pow_le_pow_right (by decide) (by decide))⟩
theorem In.mono {b c : Int} {ps : List Int} (h : In b ps) (hb : b ≤ c) : In c ps := fun z hz => by have := h z hz; omega
theorem In.app {b : Int} {ps qs : List Int} (h : In b ps) (k : In b qs) : In b (ps ++ qs) := fun z hz => (List.mem_append.mp hz).elim (h z) (k z)
theorem In.one {b x : Int} (h0 : -b ≤ x) (h1 : x ≤ b) : In b [x] := fun z hz => by rw [List.mem_singleton.mp hz]; exact ⟨h0, h1⟩
theorem so_turn {size B : Int} {p ps : List Int} {k : Int} {s4 s5 : Sl} (hp : p ≠ []) (hne : ps ≠ []) (hB : In B ps) (hl : ps.length < 1000) (h4 : isIo (some s4) = false) (h5 : isIo (some s5) = false) :
    ∃ p' ps' s4' s5', p' ≠ [] ∧ ps'.length ≤ ps.length + 1 ∧ ps' ≠ [] ∧ In (B + 1) ps' ∧ isIo (some s4') = false ∧ isIo (some s5') = false ∧
      L1__law_strict_one [.mu true (.lst (iz p)), .val (.int size), .mu false (.lst (iz ps)), .val (.int k), s4, s5] =
        .ok .nx [.mu true (.lst (iz p')), .val (.int size), .mu false (.lst (iz ps')), .val (.int k), s4', s5'] := by
  have l0 := List.length_pos_iff.mpr hne
  obtain ⟨v, p1, s, v0, v1, n1, e1⟩ := run_draw (m := ps.length) hp (Mod.of (by omega) (by omega))
  obtain ⟨y, hy, ey⟩ := mem_at v0 v1
  obtain ⟨w, p2, s', w0, w1, n2, e2⟩ := run_draw (m := 2) n1 (Mod.of (by decide) (by decide))
  have hz : ps.length < sizeLine := szlt (by omega)
  have hz1 : ps.length + 1 ≤ sizeLine := szle (by omega)
  have hy2 := hB y hy
  have hm := cmul2 w0 w1
  obtain ⟨ρ3, e3⟩ := run__law_strict (ps := ps ++ [y + 1 - 2 * w]) (by simp; omega)
  cases hb : strictG [] (ps ++ [y + 1 - 2 * w]) with
  | true =>
    rw [hb] at e3
    simp only [iz_append, iz_cons, iz_nil] at e3
    generalize hN : (ps.length : Int) = N at *
    refine ⟨p2, ps ++ [y + 1 - 2 * w], .val (.int y), .val (.int (y + 1 - 2 * w)), n2, by simp, by simp, (hB.mono (by omega)).app (In.one (by omega) (by omega)), rfl, rfl, ?_⟩
    simp [L1__law_strict_one, h4, h5, hN, e1, e2, e3, ey, hz, hz1, hm]
  | false =>
    rw [hb] at e3
    simp only [iz_append, iz_cons, iz_nil] at e3
    generalize hN : (ps.length : Int) = N at *
    refine ⟨p2, ps, .val (.int y), .val (.int (y + 1 - 2 * w)), n2, by omega, hne, hB.mono (by omega), rfl, rfl, ?_⟩
    simp [L1__law_strict_one, h4, h5, hN, e1, e2, e3, ey, hz, hz1, hm]
theorem so_loop {size : Int} : ∀ (n : Nat) (lo B : Int) (p ps : List Int) (s3 s4 s5 : Sl), p ≠ [] → ps ≠ [] → In B ps → ps.length + n ≤ 900 → isIo (some s3) = false → isIo (some s4) = false → isIo (some s5) = false →
    ∃ p' ps' s3' s4' s5', p' ≠ [] ∧ ps'.length ≤ ps.length + n ∧ ps' ≠ [] ∧ In (B + n) ps' ∧
      forL (setS 3) L1__law_strict_one (rng lo n) [.mu true (.lst (iz p)), .val (.int size), .mu false (.lst (iz ps)), s3, s4, s5] =
        .ok .nx [.mu true (.lst (iz p')), .val (.int size), .mu false (.lst (iz ps')), s3', s4', s5']
  | 0, lo, B, p, ps, s3, s4, s5, hp, hne, hB, hl, h3, h4, h5 => ⟨p, ps, s3, s4, s5, hp, by omega, hne, hB.mono (by simp), rfl⟩
  | n + 1, lo, B, p, ps, s3, s4, s5, hp, hne, hB, hl, h3, h4, h5 => by
    obtain ⟨p1, ps1, s4', s5', n1, l1, ne1, b1, i4, i5, e⟩ := so_turn (size := size) (k := lo) hp hne hB (by omega) h4 h5
    obtain ⟨p2, ps2, s3'', s4'', s5'', n2, l2, ne2, b2, e2⟩ := so_loop n (lo + 1) (B + 1) p1 ps1 (.val (.int lo)) s4' s5' n1 ne1 b1 (by omega) rfl i4 i5
    refine ⟨p2, ps2, s3'', s4'', s5'', n2, by omega, ne2, b2.mono (by omega), ?_⟩
    rw [rng_succ, forL_nx (ρ1 := [.mu true (.lst (iz p)), .val (.int size), .mu false (.lst (iz ps)), .val (.int lo), s4, s5]) (by simp [h3]) e]
    exact e2
theorem run_strict_one {p : List Int} {size : Int} (hp : p ≠ []) (h1 : 1 ≤ size) (h2 : size ≤ 60) :
    ∃ ps p' ρ, p' ≠ [] ∧ ps.length ≤ 60 ∧ ps ≠ [] ∧ In 60 ps ∧ m__law_strict_one [.mu true (.lst (iz p)), .val (.int size)] = .ok (.fr (.lst (iz ps))) (.mu true (.lst (iz p')) :: ρ) := by
  obtain ⟨p', ps', s3, s4, s5, n, l, ne, b, e⟩ := so_loop (size := size) (size - 1).toNat 0 0 p [0] .no .no .no hp (by simp) (by intro z hz; rw [List.mem_singleton.mp hz]; omega) (by simp; omega) rfl rfl rfl
  have e : forL (setS 3) L1__law_strict_one (rng 0 (size - 1).toNat) [.mu true (.lst (iz p)), .val (.int size), .mu false (.lst [.int 0]), .no, .no, .no] = _ := e
  have g := rg1_ok (j := size - 1) (r62 (by omega) (by omega))
  simp only [List.length_cons, List.length_nil] at l
  have hl : ps'.length ≤ 60 := by omega
  have hb : In 60 ps' := b.mono (by omega)
  generalize (size - 1).toNat = m at *
  refine ⟨ps', p', [.val (.int size), .no, s3, s4, s5], n, hl, ne, hb, ?_⟩
  simp [m__law_strict_one, b__law_strict_one, -x_rg1, g, e]
theorem any_comp {size wide : Int} (hm : Mod wide) (h2 : CDivW wide 2) (hw : 0 ≤ wide / 2) : ∀ (n : Nat) (lo : Int) (p acc : List Int) (s3 : Sl), p ≠ [] → In wide acc → acc.length + n ≤ 1000 → isIo (some s3) = false →
    ∃ p' xs, p' ≠ [] ∧ xs.length = acc.length + n ∧ In wide xs ∧ compL [3] (setS 3) (pure true) E1__law_any (rng lo n) (iz acc) [.mu true (.lst (iz p)), .val (.int size), .val (.int wide), s3] = .ok (iz xs) [.mu true (.lst (iz p')), .val (.int size), .val (.int wide), .no]
  | 0, lo, p, acc, s3, hp, hB, hl, h3 => ⟨p, acc, hp, rfl, hB, by simp [rng_zero, x_compL_0, wipeE, h3]⟩
  | n + 1, lo, p, acc, s3, hp, hB, hl, h3 => by
    obtain ⟨v, p1, s, v0, v1, n1, e1⟩ := run_draw hp hm
    have hz : acc.length < sizeLine := szlt (by omega)
    have hpos := hm.pos
    obtain ⟨p2, xs, n2, l2, b2, e2⟩ := any_comp (size := size) hm h2 hw n (lo + 1) p1 (acc ++ [v - wide / 2]) (.val (.int lo)) n1 (hB.app (In.one (by omega) (by omega))) (by simp; omega) rfl
    simp only [iz_append, iz_cons, iz_nil] at e2
    refine ⟨p2, xs, n2, by rw [l2]; simp; omega, b2, ?_⟩
    rw [rng_succ]
    have eE : E1__law_any [.mu true (.lst (iz p)), .val (.int size), .val (.int wide), .val (.int lo)] = .ok (.d (.int (v - wide / 2))) [.mu true (.lst (iz p1)), .val (.int size), .val (.int wide), .val (.int lo)] := by
      simp [E1__law_any, e1, h2]
    simp [x_compL_1, wipeE, h3, eE, hz, e2]
theorem run_any {p : List Int} {size : Int} (hp : p ≠ []) (h1 : 1 ≤ size) (h2 : size ≤ 60) :
    ∃ ps p' ρ, p' ≠ [] ∧ ps.length ≤ 60 ∧ In 121 ps ∧ m__law_any [.mu true (.lst (iz p)), .val (.int size)] = .ok (.fr (.lst (iz ps))) (.mu true (.lst (iz p')) :: ρ) := by
  obtain ⟨v, p1, s, v0, v1, n1, e1⟩ := run_draw (m := 2) hp (Mod.of (by decide) (by decide))
  have g := rg1_ok (j := size) (r62 (by omega) (by omega))
  have hs : size.toNat ≤ 60 := by omega
  by_cases hv : v = 1
  · obtain ⟨p2, xs, n2, l2, b2, e2⟩ := any_comp (size := size) (wide := 121) (Mod.of (by decide) (by decide)) (by decide) (by decide) size.toNat 0 p1 [] .no n1 (by intro z hz; cases hz) (by simp; omega) rfl
    simp only [List.length_nil, Nat.zero_add, iz_nil] at l2 e2
    refine ⟨xs, p2, [.val (.int size), .val (.int 121), .no], n2, by omega, b2, ?_⟩
    simp [m__law_any, b__law_any, e1, hv, -x_rg1, g, e2]
  · obtain ⟨p2, xs, n2, l2, b2, e2⟩ := any_comp (size := size) (wide := 7) (Mod.of (by decide) (by decide)) (by decide) (by decide) size.toNat 0 p1 [] .no n1 (by intro z hz; cases hz) (by simp; omega) rfl
    simp only [List.length_nil, Nat.zero_add, iz_nil] at l2 e2
    refine ⟨xs, p2, [.val (.int size), .val (.int 7), .no], n2, by omega, b2.mono (by decide), ?_⟩
    simp [m__law_any, b__law_any, e1, hv, -x_rg1, g, e2]
end K42
end
section
set_option Elab.async false
set_option linter.all false
set_option maxRecDepth 100000
set_option maxHeartbeats 4000000
set_option exponentiation.threshold 5000
namespace K42
open PySem L2 P0

theorem cutz (l : List Int) (lo hi : Option Int) : P0.cut (iz l) lo hi = iz (P0.cut l lo hi) := by
  unfold P0.cut
  rw [iz_length]
  unfold iz
  rw [← List.map_drop, ← List.map_take]
theorem cut_sub {l : List Int} {lo hi : Option Int} {z : Int} (h : z ∈ P0.cut l lo hi) : z ∈ l := List.mem_of_mem_drop (List.mem_of_mem_take h)
theorem cut_len (l : List Int) (lo hi : Option Int) : (P0.cut l lo hi).length ≤ l.length := by
  unfold P0.cut
  rw [List.length_take, List.length_drop]
  omega
theorem In.cut {b : Int} {l : List Int} (h : In b l) (lo hi : Option Int) : In b (P0.cut l lo hi) := fun z hz => h z (cut_sub hz)
theorem fold_mem (f : Int → Int → Int) (hf : ∀ a y, f a y = a ∨ f a y = y) : ∀ (l : List Int) (a : Int), l.foldl f a = a ∨ l.foldl f a ∈ l
  | [], a => .inl rfl
  | y :: l, a => by
    rw [List.foldl_cons]
    rcases fold_mem f hf l (f a y) with h | h
    · rw [h]
      rcases hf a y with h | h
      · exact .inl h
      · rw [h]; exact .inr List.mem_cons_self
    · exact .inr (List.mem_cons_of_mem _ h)
theorem lmax_mem {l : List Int} (h : l ≠ []) : lmax l ∈ l := by
  cases l with
  | nil => exact absurd rfl h
  | cons x xs =>
    show xs.foldl (fun a y => if decide (a < y) = true then y else a) x ∈ _
    rcases fold_mem (fun a y => if decide (a < y) = true then y else a) (fun a y => by by_cases h : decide (a < y) = true <;> simp [h]) xs x with h | h
    · rw [h]; exact List.mem_cons_self
    · exact List.mem_cons_of_mem _ h
theorem lmin_mem {l : List Int} (h : l ≠ []) : lmin l ∈ l := by
  cases l with
  | nil => exact absurd rfl h
  | cons x xs =>
    show xs.foldl (fun a y => if decide (y < a) = true then y else a) x ∈ _
    rcases fold_mem (fun a y => if decide (y < a) = true then y else a) (fun a y => by by_cases h : decide (y < a) = true <;> simp [h]) xs x with h | h
    · rw [h]; exact List.mem_cons_self
    · exact List.mem_cons_of_mem _ h
theorem qMax_seq {d : Dv} {ps : List Int} (h : Seqd d ps) (hne : ps ≠ []) (ρ : VE) : qMax [d] ρ = .ok (.d (.int (lmax ps))) ρ := by
  have := List.length_pos_iff.mpr hne
  cases h <;> simp [qMax, items?, this]
def HD (d : Dv) : Prop := ∃ q, d = .lst (iz q) ∧ Fit q
theorem comp1 {E : M AV} {a0 a2 a3 a4 : Sl} {ps : List Int} {f : Int → Int} (hE : ∀ z : Int, E [a0, .val (.lst (iz ps)), a2, a3, a4, .val (.int z)] = .ok (.d (.int (f z))) [a0, .val (.lst (iz ps)), a2, a3, a4, .val (.int z)]) (hl : ps.length ≤ 1000) :
    compL [5] (setS 5) (pure true) E (iz ps) [] [a0, .val (.lst (iz ps)), a2, a3, a4, .no] = .ok (iz (ps.map f)) [a0, .val (.lst (iz ps)), a2, a3, a4, .no] := by
  have c := compL_gen (vs := [5]) (mg := setS 5) (mt := pure true) (me := E) (ρ0 := [a0, .val (.lst (iz ps)), a2, a3, a4, .no]) (fun _ => true) (fun x => match x with | .int p => .int (f p) | d => d)
    (fun x => [a0, .val (.lst (iz ps)), a2, a3, a4, .val x]) (iz ps) [] [a0, .val (.lst (iz ps)), a2, a3, a4, .no] rfl rfl (fun x hx => by
      obtain ⟨p, hp, rfl⟩ := List.mem_map.mp hx
      exact ⟨rfl, rfl, fun _ => hE p, rfl, rfl⟩) (by
        rw [List.length_nil, Nat.zero_add, iz_length]
        exact szlt (by omega))
  have e : (iz ps).filter (fun _ => true) = iz ps := by simp
  rw [e] at c
  have e2 : ((iz ps).map fun x => match x with | .int p => Dv.int (f p) | d => d) = iz (ps.map f) := by
    unfold iz
    rw [List.map_map, List.map_map]; rfl
  rw [e2, List.nil_append] at c
  exact c
theorem run_changed {p ps : List Int} (hp : p ≠ []) (hne : ps ≠ []) (hl : ps.length ≤ 60) (hB : In 60 ps) :
    ∃ ds p' ρ, p' ≠ [] ∧ ds.length = 5 ∧ (∀ d ∈ ds, HD d) ∧ m__law_changed [.mu true (.lst (iz p)), .val (.lst (iz ps))] = .ok (.fr (.lst ds)) (.mu true (.lst (iz p')) :: ρ) := by
  have l0 := List.length_pos_iff.mpr hne
  obtain ⟨v, p1, s1, v0, v1, n1, e1⟩ := run_draw (m := ps.length) hp (Mod.of (by omega) (by omega))
  obtain ⟨w, p2, s2, w0, w1, n2, e2⟩ := run_draw (m := 3) n1 (Mod.of (by decide) (by decide))
  obtain ⟨x, p3, s3, x0, x1, n3, e3⟩ := run_draw (m := 2) n2 (Mod.of (by decide) (by decide))
  obtain ⟨y, p4, s4, y0, y1, n4, e4⟩ := run_draw (m := 3) n3 (Mod.of (by decide) (by decide))
  have mx := qMax_seq (.lst ps) hne
  have mn := qMin_seq (.lst ps) hne
  have bx := hB _ (lmax_mem hne)
  have bn := hB _ (lmin_mem hne)
  obtain ⟨la, hla⟩ : ∃ la, ps.getLast? = some la := ⟨ps.getLast hne, List.getLast?_eq_some_getLast hne⟩
  have bl := hB _ (List.mem_of_getLast? hla)
  have hla := atI_last ps la hla
  have c1 : ∀ a0 a2 a3 a4, compL [5] (setS 5) (pure true) E1__law_changed (iz ps) [] [a0, .val (.lst (iz ps)), a2, a3, a4, .no] = .ok (iz (ps.map (· + 1))) [a0, .val (.lst (iz ps)), a2, a3, a4, .no] := fun a0 a2 a3 a4 => comp1 (fun z => by simp [E1__law_changed]) (by omega)
  have c2 : ∀ a0 a2 a3 a4, compL [5] (setS 5) (pure true) E2__law_changed (iz ps) [] [a0, .val (.lst (iz ps)), a2, a3, a4, .no] = .ok (iz (ps.map (· - 1))) [a0, .val (.lst (iz ps)), a2, a3, a4, .no] := fun a0 a2 a3 a4 => comp1 (fun z => by simp [E2__law_changed]) (by omega)
  have k1 := cut_len ps none (some (1 + v))
  have k2 := cut_len ps (some (1 + v)) none
  have z1 : (P0.cut ps none (some (1 + v))).length + 1 ≤ sizeLine := szle (by omega)
  have z2 : (P0.cut ps none (some (1 + v))).length + 1 + (P0.cut ps (some (1 + v)) none).length ≤ sizeLine := szle (by omega)
  have z3 : ps.length + 1 ≤ sizeLine := szle (by omega)
  have z4 : 1 + ps.length ≤ sizeLine := szle (by omega)
  have fin5 : ∀ far : Int, -100 ≤ far → far ≤ 100 → ∀ d ∈ [Dv.lst (iz (P0.cut ps none (some (1 + v)) ++ [far] ++ P0.cut ps (some (1 + v)) none)), .lst (iz (ps ++ [la])), .lst (iz ([1] ++ ps)), .lst (iz (ps.map (· + 1))), .lst (iz (ps.map (· - 1)))], HD d := by
    intro far f0 f1 d hd
    have B1 : In 100 ps := hB.mono (by decide)
    simp only [List.mem_cons, List.not_mem_nil, or_false] at hd
    rcases hd with rfl | rfl | rfl | rfl | rfl
    · exact ⟨_, rfl, (((B1.cut _ _).app (In.one f0 f1)).app (B1.cut _ _)).fit (by simp only [List.length_append, List.length_singleton]; omega) (by decide)⟩
    · exact ⟨_, rfl, (B1.app (In.one (by omega) (by omega))).fit (by simp; omega) (by decide)⟩
    · exact ⟨_, rfl, ((In.one (by decide) (by decide)).app B1).fit (by simp; omega) (by decide)⟩
    · refine ⟨_, rfl, In.fit (b := 100) (fun z hz => ?_) (by simp; omega) (by decide)⟩
      obtain ⟨q, hq, rfl⟩ := List.mem_map.mp hz
      have := hB q hq
      omega
    · refine ⟨_, rfl, In.fit (b := 100) (fun z hz => ?_) (by simp; omega) (by decide)⟩
      obtain ⟨q, hq, rfl⟩ := List.mem_map.mp hz
      have := hB q hq
      omega
  generalize hN : (ps.length : Int) = N at *
  by_cases hx : x = 1
  · refine ⟨_, p4, ?_, n4, ?_, fin5 (lmin ps - 2 - y) (by omega) (by omega), ?_⟩
    rotate_left 2
    · simp [m__law_changed, b__law_changed, R1__law_changed, R2__law_changed, R3__law_changed, R4__law_changed, R5__law_changed, R6__law_changed, R7__law_changed, hN, e1, e2, e3, e4, mx, mn, hx, cutz, z1, z2, z3, z4, hla, c1, c2, walk?, items?]
      exact rfl
    · rfl
  · refine ⟨_, p3, ?_, n3, ?_, fin5 (lmax ps + 2 + w) (by omega) (by omega), ?_⟩
    rotate_left 2
    · simp [m__law_changed, b__law_changed, R1__law_changed, R2__law_changed, R3__law_changed, R4__law_changed, R5__law_changed, R6__law_changed, R7__law_changed, hN, e1, e2, e3, e4, mx, mn, hx, cutz, z1, z2, z3, z4, hla, c1, c2, walk?, items?]
      exact rfl
    · rfl
end K42
end
section
set_option Elab.async false
set_option linter.all false
set_option maxRecDepth 100000
set_option maxHeartbeats 4000000
set_option exponentiation.threshold 5000
namespace K42
open PySem L2 P0

theorem comp2 {E : M AV} {a0 a1 a2 a3 a4 a5 a6 a7 : Sl} {c : Int} (hE : ∀ z : Int, E [a0, a1, a2, a3, a4, a5, a6, a7, .val (.int z)] = .ok (.d (.int c)) [a0, a1, a2, a3, a4, a5, a6, a7, .val (.int z)]) {m : Nat} (hl : m ≤ 1000) :
    compL [8] (setS 8) (pure true) E (rng 0 m) [] [a0, a1, a2, a3, a4, a5, a6, a7, .no] = .ok (iz (List.replicate m c)) [a0, a1, a2, a3, a4, a5, a6, a7, .no] := by
  have c1 := compL_gen (vs := [8]) (mg := setS 8) (mt := pure true) (me := E) (ρ0 := [a0, a1, a2, a3, a4, a5, a6, a7, .no]) (fun _ => true) (fun _ => .int c)
    (fun x => [a0, a1, a2, a3, a4, a5, a6, a7, .val x]) (rng 0 m) [] [a0, a1, a2, a3, a4, a5, a6, a7, .no] rfl rfl (fun x hx => by
      obtain ⟨k, hk, rfl⟩ := List.mem_map.mp hx
      exact ⟨rfl, rfl, fun _ => hE _, rfl, rfl⟩) (by
        rw [List.length_nil, Nat.zero_add]
        exact szlt (by simp [rng]; omega))
  have e : (rng 0 m).filter (fun _ => true) = rng 0 m := by simp
  have e2 : (rng 0 m).map (fun _ => Dv.int c) = iz (List.replicate m c) := by
    rw [List.map_const', show (rng 0 m).length = m by simp [rng]]
    unfold iz
    rw [List.map_replicate]
  rw [e, e2, List.nil_append] at c1
  exact c1
def Far : Int := 61 + 10 ^ 20
theorem fitF {ps : List Int} (h : In Far ps) (hl : ps.length ≤ 1000) : Fit ps := h.fit hl (by decide +kernel)
theorem run_beyond {p ps : List Int} (hp : p ≠ []) (hl : ps.length ≤ 60) (hB : In 60 ps) :
    ∃ ds p' ρ, p' ≠ [] ∧ ds.length = 5 ∧ (∀ d ∈ ds, HD d) ∧ m__law_beyond [.mu true (.lst (iz p)), .val (.lst (iz ps))] = .ok (.fr (.lst ds)) (.mu true (.lst (iz p')) :: ρ) := by
  have hc : CPow 10 20 := ⟨by decide, by decide, by decide⟩
  obtain ⟨v, p1, s1, v0, v1, n1, e1⟩ := run_draw (m := 100000000000000000000) hp (Mod.of (by decide) (by decide))
  obtain ⟨w, p2, s2, w0, w1, n2, e2⟩ := run_draw (m := 4) n1 (Mod.of (by decide) (by decide))
  obtain ⟨bad, hbm, hbad⟩ := mem_at (l := [-61, 61, -61 - v, 61 + v]) (v := w) w0 w1
  have hF : Far = 61 + 100000000000000000000 := by decide
  have bb : -Far ≤ bad ∧ bad ≤ Far := by
    simp only [List.mem_cons, List.not_mem_nil, or_false] at hbm
    rcases hbm with rfl | rfl | rfl | rfl <;> omega
  simp only [iz_cons, iz_nil] at hbad
  obtain ⟨x, p3, s3, x0, x1, n3, e3⟩ := run_draw (m := (ps.length : Int) + 1) n2 (Mod.of (by omega) (by omega))
  obtain ⟨y, p4, s4, y0, y1, n4, e4⟩ := run_draw (m := 3) n3 (Mod.of (by decide) (by decide))
  have k1 := cut_len ps none (some x)
  have k2 := cut_len ps (some x) none
  have z1 : (P0.cut ps none (some x)).length + 1 ≤ sizeLine := szle (by omega)
  have z2 : (P0.cut ps none (some x)).length + 1 + (P0.cut ps (some x) none).length ≤ sizeLine := szle (by omega)
  have z3 : (P0.cut ps none (some x)).length + 1 + 1 ≤ sizeLine := szle (by omega)
  have z4 : (P0.cut ps none (some x)).length + 1 + 1 + (P0.cut ps (some x) none).length ≤ sizeLine := szle (by omega)
  have g := rg1_ok (j := 61 + y) (r62 (by omega) (by omega))
  have hm : (61 + y).toNat ≤ 100 := by omega
  generalize (61 + y).toNat = m at *
  have c1 : ∀ a0 a1 a2 a3 a4 a5 a6 a7, compL [8] (setS 8) (pure true) E1__law_beyond (rng 0 m) [] [a0, a1, a2, a3, a4, a5, a6, a7, .no] = .ok (iz (List.replicate m 0)) [a0, a1, a2, a3, a4, a5, a6, a7, .no] := fun a0 a1 a2 a3 a4 a5 a6 a7 => comp2 (fun z => by simp [E1__law_beyond]) (by omega)
  have c2 : ∀ a0 a1 a2 a4 a5 a6 a7, compL [8] (setS 8) (pure true) E2__law_beyond (rng 0 m) [] [a0, a1, a2, .val (.int bad), a4, a5, a6, a7, .no] = .ok (iz (List.replicate m bad)) [a0, a1, a2, .val (.int bad), a4, a5, a6, a7, .no] := fun a0 a1 a2 a4 a5 a6 a7 => comp2 (fun z => by simp [E2__law_beyond]) (by omega)
  have all : ∀ d ∈ [Dv.lst (iz (P0.cut ps none (some x) ++ [bad] ++ P0.cut ps (some x) none)), .lst (iz (P0.cut ps none (some x) ++ [bad] ++ [-bad] ++ P0.cut ps (some x) none)), .lst (iz []), .lst (iz (List.replicate m 0)), .lst (iz (List.replicate m bad))], HD d := by
    intro d hd
    have B1 : In Far ps := hB.mono (by omega)
    simp only [List.mem_cons, List.not_mem_nil, or_false] at hd
    rcases hd with rfl | rfl | rfl | rfl | rfl
    · exact ⟨_, rfl, fitF (((B1.cut _ _).app (In.one bb.1 bb.2)).app (B1.cut _ _)) (by simp only [List.length_append, List.length_singleton]; omega)⟩
    · exact ⟨_, rfl, fitF ((((B1.cut _ _).app (In.one bb.1 bb.2)).app (In.one (by omega) (by omega))).app (B1.cut _ _)) (by simp only [List.length_append, List.length_singleton]; omega)⟩
    · exact ⟨_, rfl, fitF (fun z hz => by cases hz) (by simp)⟩
    · exact ⟨_, rfl, fitF (fun z hz => by rw [List.eq_of_mem_replicate hz]; omega) (by simp; omega)⟩
    · exact ⟨_, rfl, fitF (fun z hz => by rw [List.eq_of_mem_replicate hz]; exact bb) (by simp; omega)⟩
  generalize hN : (ps.length : Int) = N at *
  refine ⟨_, p4, ?_, n4, ?_, all, ?_⟩
  rotate_left 2
  · simp [m__law_beyond, b__law_beyond, R1__law_beyond, R2__law_beyond, R3__law_beyond, R4__law_beyond, R5__law_beyond, R6__law_beyond, R7__law_beyond, R8__law_beyond, hN, hc, e1, e2, e3, e4, hbad, cutz, z1, z2, z3, z4, -x_rg1, g, c1, c2, walk?, items?]
    exact rfl
  · rfl
end K42
end
section
set_option Elab.async false
set_option linter.all false
set_option maxRecDepth 100000
set_option maxHeartbeats 4000000
set_option exponentiation.threshold 5000
namespace K42
open PySem L2 P0

theorem law_loop {a0 a2 a3 a4 a5 a6 a7 a9 a10 : Sl} : ∀ (ds : List Dv) (p : List Int) (s8 : Sl), p ≠ [] → (∀ d ∈ ds, HD d) → isIo (some s8) = false →
    ∃ p' s8', p' ≠ [] ∧ forL (setS 8) L1_law ds [a0, .mu false (.lst (iz p)), a2, a3, a4, a5, a6, a7, s8, a9, a10] = .ok .nx [a0, .mu false (.lst (iz p')), a2, a3, a4, a5, a6, a7, s8', a9, a10]
  | [], p, s8, hp, _, _ => ⟨p, s8, hp, rfl⟩
  | d :: ds, p, s8, hp, hd, h8 => by
    obtain ⟨q, rfl, hf⟩ := hd d List.mem_cons_self
    have hl := hf.1
    obtain ⟨v, p1, s1, v0, v1, n1, e1⟩ := run_draw (m := (q.length : Int) + 2) hp (Mod.of (by omega) (by omega))
    obtain ⟨ρ2, e2⟩ := heap_true (t := v - 1) hf (small (by omega) (by omega))
    obtain ⟨p', s8', n, e⟩ := law_loop (a0 := a0) (a2 := a2) (a3 := a3) (a4 := a4) (a5 := a5) (a6 := a6) (a7 := a7) (a9 := a9) (a10 := a10) ds p1 (.val (.lst (iz q))) n1 (fun x hx => hd x (List.mem_cons_of_mem _ hx)) rfl
    refine ⟨p', s8', n, ?_⟩
    rw [forL_nx (ρ1 := [a0, .mu false (.lst (iz p)), a2, a3, a4, a5, a6, a7, .val (.lst (iz q)), a9, a10]) (ρ2 := [a0, .mu false (.lst (iz p1)), a2, a3, a4, a5, a6, a7, .val (.lst (iz q)), a9, a10]) (by simp [h8]) (by
      simp [L1_law, e1, e2])]
    exact e
theorem last_same {least : Int} {ps : List Int} (h : Pyr least ps) (hl : ps.length ≤ 60) : ∃ xs ρ1 ρ2 ρ3, m_levels [.val (.tup (iz ps))] = .ok (.fr (.lst xs)) ρ1 ∧ m__law_levels [.val (.lst (iz ps))] = .ok (.fr (.lst xs)) ρ2 ∧ m__law_same [.val (.lst xs), .val (.lst xs)] = .ok (.d (.bl true)) ρ3 := by
  have l0 := List.length_pos_iff.mpr h.ne
  have g : Good (.tup (iz ps)) ps := good_of l0 hl (h.wrong hl) (.tup ps)
  obtain ⟨ρ1, e1⟩ := run_levels g h.ast
  obtain ⟨ρ2, e2⟩ := run__law_levels (.lst ps) h.ne (by omega)
  refine ⟨_, ρ1, ρ2, _, e1, e2, same_refl (by simp) (by simp) (showable_iz (levels_fit hl)) (by
    have := lvG_length ps []
    simp [this]; omega)⟩
theorem math : ∀ ns : List Int, ns.length ≤ 63 → (∀ z ∈ ns, Builtin.Int.intBits z ≤ 1048576) → ∃ ρ, m_law [P0.Sl.val (.rls (ns.map P0.Dv.int))] = .ok (.d (.bl true)) ρ := by
  intro ns hns _
  show ∃ ρ, m_law [P0.Sl.val (.rls (iz ns))] = .ok (.d (.bl true)) ρ
  have hc : CPow 10 20 := ⟨by decide, by decide, by decide⟩
  obtain ⟨ρ0, e0⟩ := run_pool ns (by omega)
  generalize hp0 : (0 :: (ns.take 63).map fun i => absI i % T60) = p0 at *
  have n0 : p0 ≠ [] := by rw [← hp0]; simp
  -- first
  obtain ⟨v1, p1, s1, a1, b1, n1, e1⟩ := run_draw (m := 10) n0 (Mod.of (by decide) (by decide))
  obtain ⟨F, p2, r2, n2, l2, J2, e2⟩ := run_pyramid (size := 1 + v1) (least := -60) n1 (by omega) (by omega) (by decide)
  -- half
  obtain ⟨v3, p3, s3, a3, b3, n3, e3⟩ := run_draw (m := 10) n2 (Mod.of (by decide) (by decide))
  obtain ⟨H, p4, r4, n4, l4, J4, e4⟩ := run_pyramid (size := 1 + v3) (least := 0) n3 (by omega) (by omega) (by decide)
  -- strict
  obtain ⟨v5, p5, s5, a5, b5, n5, e5⟩ := run_draw (m := 10) n4 (Mod.of (by decide) (by decide))
  obtain ⟨S, p6, r6, n6, l6, ne6, B6, e6⟩ := run_strict_one (size := 1 + v5) n5 (by omega) (by omega)
  -- other
  obtain ⟨v7, p7, s7, a7, b7, n7, e7⟩ := run_draw (m := 10) n6 (Mod.of (by decide) (by decide))
  obtain ⟨O, p8, r8, n8, l8, B8, e8⟩ := run_any (size := 1 + v7) n7 (by omega) (by omega)
  -- great
  obtain ⟨v9, p9, s9, a9, b9, n9, e9⟩ := run_draw (m := 8) n8 (Mod.of (by decide) (by decide))
  have hlF : F.length ≤ 10 := by omega
  have hlH : H.length ≤ 10 := by omega
  have FF : Fit F := J2.fit (by omega)
  have FH : Fit H := J4.fit (by omega)
  have FS : Fit S := B6.fit (by omega) (by decide)
  have FO : Fit O := B8.fit (by omega) (by decide)
  have bF : In 60 F := fun z hz => by have := J2.b z hz; omega
  have bH : In 60 H := fun z hz => by have := J4.b z hz; omega
  obtain ⟨d1, p10, r10, n10, l10, D10, e10⟩ := run_changed n9 J2.ne (by omega) bF
  obtain ⟨d2, p11, r11, n11, l11, D11, e11⟩ := run_changed n10 ne6 (by omega) B6
  obtain ⟨d3, p12, r12, n12, l12, D12, e12⟩ := run_beyond n11 (ps := H) (by omega) bH
  have Dall : ∀ d ∈ [Dv.lst (iz F), .lst (iz H), .lst (iz S), .lst (iz O)] ++ d1 ++ d2 ++ d3, HD d := by
    intro d hd
    rcases List.mem_append.mp hd with hd | hd
    · rcases List.mem_append.mp hd with hd | hd
      · rcases List.mem_append.mp hd with hd | hd
        · simp only [List.mem_cons, List.not_mem_nil, or_false] at hd
          rcases hd with rfl | rfl | rfl | rfl
          · exact ⟨_, rfl, FF⟩
          · exact ⟨_, rfl, FH⟩
          · exact ⟨_, rfl, FS⟩
          · exact ⟨_, rfl, FO⟩
        · exact D10 d hd
      · exact D11 d hd
    · exact D12 d hd
  simp only [List.cons_append, List.nil_append] at Dall
  have big : ∀ z : Int, -1000 - 10 ^ 20 ≤ z → z ≤ 1000 + 10 ^ 20 → z.natAbs < 2 ^ 1000 := fun z h0 h1 => by
    have : z.natAbs < 2 ^ 100 := by omega
    exact Nat.lt_of_lt_of_le this (Nat.pow_le_pow_right (by decide) (by decide))
  obtain ⟨xs, q1, q2, q3, g1, g2, g3⟩ := last_same J2 (by omega)
  obtain ⟨h1, k1⟩ := heap_true (t := (F.length : Int)) FF (small (by omega) (by omega))
  obtain ⟨h2, k2⟩ := heap_true (t := -1) FF (small (by omega) (by omega))
  obtain ⟨h5, k5⟩ := heap_true (t := 0) FS (small (by omega) (by omega))
  obtain ⟨h6, k6⟩ := heap_true (t := 0) FF (small (by omega) (by omega))
  have z1 : d1.length + 1 + 1 + 1 + 1 + d2.length ≤ sizeLine := szle (by omega)
  have z2 : d1.length + d2.length + 1 + 1 + 1 + 1 + d3.length ≤ sizeLine := szle (by omega)
  have z3 : 1 + 1 + 1 + 1 + d1.length ≤ sizeLine := szle (by omega)
  obtain ⟨p13, s13, n13, e13⟩ := law_loop (a0 := .val (.rls (iz ns))) (a2 := .val (.lst (iz F))) (a3 := .val (.lst (iz H))) (a4 := .val (.lst (iz S))) (a5 := .val (.lst (iz O))) (a6 := .val (.bl (decide (v9 = 0)))) (a7 := .mu false (.lst (.lst (iz F) :: .lst (iz H) :: .lst (iz S) :: .lst (iz O) :: (d1 ++ d2)))) (a9 := .no) (a10 := .no) _ p12 .no n12 Dall rfl
  obtain ⟨v14, p14, s14, a14, b14, n14, e14⟩ := run_draw (m := 100000000000000000000) n13 (Mod.of (by decide) (by decide))
  obtain ⟨h7, k7⟩ := heap_true (t := (F.length : Int) + v14) FF (big _ (by omega) (by omega))
  obtain ⟨h8, k8⟩ := heap_true (t := -1 - ((F.length : Int) + v14)) FF (big _ (by omega) (by omega))
  by_cases hv : v9 = 0
  · obtain ⟨G, p15, r15, n15, l15, J15, e15⟩ := run_pyramid (size := 60) (least := -60) n14 (by decide) (by decide) (by decide)
    obtain ⟨v16, p16, s16, a16, b16, n16, e16⟩ := run_draw (m := 60) n15 (Mod.of (by decide) (by decide))
    obtain ⟨h9, k9⟩ := heap_true (t := v16) (J15.fit (by omega)) (small (by omega) (by omega))
    rw [decide_eq_true hv, List.append_assoc] at e13
    simp [m_law, b_law, R1_law, R2_law, R3_law, R4_law, R5_law, R6_law, R7_law, R8_law, R9_law, R10_law, R11_law, R12_law, R13_law, R14_law, hc, hv, e0, e1, e2, e3, e4, e5, e6, e7, e8, e9, e10, e11, e12, e13, e14, e15, e16, z1, z2, z3, k1, k2, k5, k6, k7, k8, k9, g1, g2, g3, walk?, items?]
  · rw [decide_eq_false hv, List.append_assoc] at e13
    simp [m_law, b_law, R1_law, R2_law, R3_law, R4_law, R5_law, R6_law, R7_law, R8_law, R9_law, R10_law, R11_law, R12_law, R13_law, R14_law, hc, hv, e0, e1, e2, e3, e4, e5, e6, e7, e8, e9, e10, e11, e12, e13, e14, z1, z2, z3, k1, k2, k5, k6, k7, k8, g1, g2, g3, walk?, items?]
end K42
end
open PySem PySem.W PyProof.Rows
set_option linter.all false
set_option maxRecDepth 100000 in
set_option maxHeartbeats 0 in
theorem PySem.Challenge.cw_rimmachines_k42_heaps_fall_holds : PySem.Challenge.rw_rimmachines_k42_heaps_fall.Holds := by
  w_on; o_law; k_head; (case hw => w_witness2)
  k_fill
  refine P0.walk_P0 (l := PySem.Challenge.rw_rimmachines_k42_heaps_fall) (n := 63) (k := 8) (x := "script") (φ := K42.m_law) rfl (by decide) rfl ⟨rfl, by decide, by decide⟩ (fun w h Y => PySem.W.kIn_of Y) ?F ?math
  case F =>
    intro w mg fa h KX G hmg
    refine' K42.all_mk KX G hmg ?a0 ?l0 ?c0 ?k0 ?a1 ?l1 ?c1 ?k1 ?a2 ?l2 ?c2 ?k2 ?a3 ?l3 ?c3 ?k3 ?a4 ?l4 ?c4 ?k4 ?a5 ?l5 ?c5 ?k5 ?a6 ?l6 ?c6 ?k6 ?a7 ?l7 ?c7 ?k7 ?a8 ?l8 ?c8 ?k8 ?a9 ?l9 ?c9 ?k9 ?a10 ?l10 ?c10 ?k10 ?a11 ?l11 ?c11 ?k11 ?a12 ?l12 ?c12 ?k12 ?a13 ?l13 ?c13 ?k13 ?a14 ?l14 ?c14 ?k14 ?a15 ?l15 ?c15 ?k15 ?a16 ?l16 ?c16 ?k16 ?a17 ?l17 ?c17 ?k17 ?a18 ?l18 ?c18 ?k18 ?a19 ?l19 ?c19 ?k19 ?a20 ?l20 ?c20 ?k20 ?a21 ?l21 ?c21 ?k21 ?a22 ?l22 ?c22 ?k22 ?a23 ?l23 ?c23 ?k23 ?a24 ?l24 ?c24 ?k24 ?a25 ?l25 ?c25 ?k25 ?a26 ?l26 ?c26 ?k26 ?z_abs ?z_enumerate ?z_int ?z_isinstance ?z_len ?z_list ?z_max ?z_min ?z_range ?z_repr ?z_tuple ?z_zip ?y_MOST ?ac0 ?hg0 ?hk0 ?hs0 ?hd0 ?ha0 ?hm0 ?ty0 ?ac1 ?hg1 ?hk1 ?hs1 ?hd1 ?ha1 ?hm1 ?ty1 ?ac2 ?hg2 ?hk2 ?hs2 ?hd2 ?ha2 ?hm2 ?ty2 ?ac3 ?hg3 ?hk3 ?hs3 ?hd3 ?ha3 ?hm3 ?ty3 ?ac4 ?hg4 ?hk4 ?hs4 ?hd4 ?ha4 ?hm4 ?ty4 ?hn ?ht ?p0_0 ?p0_1 ?p0_2 ?p0_3 ?p0_4 ?p1_0 ?p1_1 ?p1_2 ?p1_3 ?p1_4 ?p2_0 ?p2_1 ?p2_2 ?p2_3 ?p2_4 ?p3_0 ?p3_1 ?p3_2 ?p3_3 ?p3_4 ?p4_0 ?p4_1 ?p4_2 ?p4_3 ?p4_4 ?no1_number ?no4_x ?no4_y ?no2_count ?xl1 ?xr1 ?sa1 ?kc1 ?ic1 ?xl2 ?xr2 ?sa2 ?kc2 ?ic2 ?xl4 ?xr4 ?sa4 ?kc4 ?ic4 ?li0 ?ci0 ?ki0 ?iti0 ?li1 ?ci1 ?ki1 ?iti1 ?li2 ?ci2 ?ki2 ?iti2
    (case a0 => first | k_is | rfl | decide +kernel)
    (case l0 => first | k_is | rfl | decide +kernel)
    (case c0 => first | k_is | rfl | decide +kernel)
    (case k0 => first | k_is | rfl | decide +kernel)
    (case a1 => first | k_is | rfl | decide +kernel)
    (case l1 => first | k_is | rfl | decide +kernel)
    (case c1 => first | k_is | rfl | decide +kernel)
    (case k1 => first | k_is | rfl | decide +kernel)
    (case a2 => first | k_is | rfl | decide +kernel)
    (case l2 => first | k_is | rfl | decide +kernel)
    (case c2 => first | k_is | rfl | decide +kernel)
    (case k2 => first | k_is | rfl | decide +kernel)
    (case a3 => first | k_is | rfl | decide +kernel)
    (case l3 => first | k_is | rfl | decide +kernel)
    (case c3 => first | k_is | rfl | decide +kernel)
    (case k3 => first | k_is | rfl | decide +kernel)
    (case a4 => first | k_is | rfl | decide +kernel)
    (case l4 => first | k_is | rfl | decide +kernel)
    (case c4 => first | k_is | rfl | decide +kernel)
    (case k4 => first | k_is | rfl | decide +kernel)
    (case a5 => first | k_is | rfl | decide +kernel)
    (case l5 => first | k_is | rfl | decide +kernel)
    (case c5 => first | k_is | rfl | decide +kernel)
    (case k5 => first | k_is | rfl | decide +kernel)
    (case a6 => first | k_is | rfl | decide +kernel)
    (case l6 => first | k_is | rfl | decide +kernel)
    (case c6 => first | k_is | rfl | decide +kernel)
    (case k6 => first | k_is | rfl | decide +kernel)
    (case a7 => first | k_is | rfl | decide +kernel)
    (case l7 => first | k_is | rfl | decide +kernel)
    (case c7 => first | k_is | rfl | decide +kernel)
    (case k7 => first | k_is | rfl | decide +kernel)
    (case a8 => first | k_is | rfl | decide +kernel)
    (case l8 => first | k_is | rfl | decide +kernel)
    (case c8 => first | k_is | rfl | decide +kernel)
    (case k8 => first | k_is | rfl | decide +kernel)
    (case a9 => first | k_is | rfl | decide +kernel)
    (case l9 => first | k_is | rfl | decide +kernel)
    (case c9 => first | k_is | rfl | decide +kernel)
    (case k9 => first | k_is | rfl | decide +kernel)
    (case a10 => first | k_is | rfl | decide +kernel)
    (case l10 => first | k_is | rfl | decide +kernel)
    (case c10 => first | k_is | rfl | decide +kernel)
    (case k10 => first | k_is | rfl | decide +kernel)
    (case a11 => first | k_is | rfl | decide +kernel)
    (case l11 => first | k_is | rfl | decide +kernel)
    (case c11 => first | k_is | rfl | decide +kernel)
    (case k11 => first | k_is | rfl | decide +kernel)
    (case a12 => first | k_is | rfl | decide +kernel)
    (case l12 => first | k_is | rfl | decide +kernel)
    (case c12 => first | k_is | rfl | decide +kernel)
    (case k12 => first | k_is | rfl | decide +kernel)
    (case a13 => first | k_is | rfl | decide +kernel)
    (case l13 => first | k_is | rfl | decide +kernel)
    (case c13 => first | k_is | rfl | decide +kernel)
    (case k13 => first | k_is | rfl | decide +kernel)
    (case a14 => first | k_is | rfl | decide +kernel)
    (case l14 => first | k_is | rfl | decide +kernel)
    (case c14 => first | k_is | rfl | decide +kernel)
    (case k14 => first | k_is | rfl | decide +kernel)
    (case a15 => first | k_is | rfl | decide +kernel)
    (case l15 => first | k_is | rfl | decide +kernel)
    (case c15 => first | k_is | rfl | decide +kernel)
    (case k15 => first | k_is | rfl | decide +kernel)
    (case a16 => first | k_is | rfl | decide +kernel)
    (case l16 => first | k_is | rfl | decide +kernel)
    (case c16 => first | k_is | rfl | decide +kernel)
    (case k16 => first | k_is | rfl | decide +kernel)
    (case a17 => first | k_is | rfl | decide +kernel)
    (case l17 => first | k_is | rfl | decide +kernel)
    (case c17 => first | k_is | rfl | decide +kernel)
    (case k17 => first | k_is | rfl | decide +kernel)
    (case a18 => first | k_is | rfl | decide +kernel)
    (case l18 => first | k_is | rfl | decide +kernel)
    (case c18 => first | k_is | rfl | decide +kernel)
    (case k18 => first | k_is | rfl | decide +kernel)
    (case a19 => first | k_is | rfl | decide +kernel)
    (case l19 => first | k_is | rfl | decide +kernel)
    (case c19 => first | k_is | rfl | decide +kernel)
    (case k19 => first | k_is | rfl | decide +kernel)
    (case a20 => first | k_is | rfl | decide +kernel)
    (case l20 => first | k_is | rfl | decide +kernel)
    (case c20 => first | k_is | rfl | decide +kernel)
    (case k20 => first | k_is | rfl | decide +kernel)
    (case a21 => first | k_is | rfl | decide +kernel)
    (case l21 => first | k_is | rfl | decide +kernel)
    (case c21 => first | k_is | rfl | decide +kernel)
    (case k21 => first | k_is | rfl | decide +kernel)
    (case a22 => first | k_is | rfl | decide +kernel)
    (case l22 => first | k_is | rfl | decide +kernel)
    (case c22 => first | k_is | rfl | decide +kernel)
    (case k22 => first | k_is | rfl | decide +kernel)
    (case a23 => first | k_is | rfl | decide +kernel)
    (case l23 => first | k_is | rfl | decide +kernel)
    (case c23 => first | k_is | rfl | decide +kernel)
    (case k23 => first | k_is | rfl | decide +kernel)
    (case a24 => first | k_is | rfl | decide +kernel)
    (case l24 => first | k_is | rfl | decide +kernel)
    (case c24 => first | k_is | rfl | decide +kernel)
    (case k24 => first | k_is | rfl | decide +kernel)
    (case a25 => first | k_is | rfl | decide +kernel)
    (case l25 => first | k_is | rfl | decide +kernel)
    (case c25 => first | k_is | rfl | decide +kernel)
    (case k25 => first | k_is | rfl | decide +kernel)
    (case a26 => first | k_is | rfl | decide +kernel)
    (case l26 => first | k_is | rfl | decide +kernel)
    (case c26 => first | k_is | rfl | decide +kernel)
    (case k26 => first | k_is | rfl | decide +kernel)
    (case z_abs => first | k_is | rfl | decide +kernel)
    (case z_enumerate => first | k_is | rfl | decide +kernel)
    (case z_int => first | k_is | rfl | decide +kernel)
    (case z_isinstance => first | k_is | rfl | decide +kernel)
    (case z_len => first | k_is | rfl | decide +kernel)
    (case z_list => first | k_is | rfl | decide +kernel)
    (case z_max => first | k_is | rfl | decide +kernel)
    (case z_min => first | k_is | rfl | decide +kernel)
    (case z_range => first | k_is | rfl | decide +kernel)
    (case z_repr => first | k_is | rfl | decide +kernel)
    (case z_tuple => first | k_is | rfl | decide +kernel)
    (case z_zip => first | k_is | rfl | decide +kernel)
    (case y_MOST => first | k_is | rfl | decide +kernel)
    (case ac0 => first | k_is | rfl | decide +kernel)
    (case hg0 => first | k_is | rfl | decide +kernel)
    (case hk0 => first | k_is | rfl | decide +kernel)
    (case hs0 => first | k_is | rfl | decide +kernel)
    (case hd0 => first | k_is | rfl | decide +kernel)
    (case ha0 => first | k_is | rfl | decide +kernel)
    (case hm0 => first | k_is | rfl | decide +kernel)
    (case ty0 => first | k_is | rfl | decide +kernel)
    (case ac1 => first | k_is | rfl | decide +kernel)
    (case hg1 => first | k_is | rfl | decide +kernel)
    (case hk1 => first | k_is | rfl | decide +kernel)
    (case hs1 => first | k_is | rfl | decide +kernel)
    (case hd1 => first | k_is | rfl | decide +kernel)
    (case ha1 => first | k_is | rfl | decide +kernel)
    (case hm1 => first | k_is | rfl | decide +kernel)
    (case ty1 => first | k_is | rfl | decide +kernel)
    (case ac2 => first | k_is | rfl | decide +kernel)
    (case hg2 => first | k_is | rfl | decide +kernel)
    (case hk2 => first | k_is | rfl | decide +kernel)
    (case hs2 => first | k_is | rfl | decide +kernel)
    (case hd2 => first | k_is | rfl | decide +kernel)
    (case ha2 => first | k_is | rfl | decide +kernel)
    (case hm2 => first | k_is | rfl | decide +kernel)
    (case ty2 => first | k_is | rfl | decide +kernel)
    (case ac3 => first | k_is | rfl | decide +kernel)
    (case hg3 => first | k_is | rfl | decide +kernel)
    (case hk3 => first | k_is | rfl | decide +kernel)
    (case hs3 => first | k_is | rfl | decide +kernel)
    (case hd3 => first | k_is | rfl | decide +kernel)
    (case ha3 => first | k_is | rfl | decide +kernel)
    (case hm3 => first | k_is | rfl | decide +kernel)
    (case ty3 => first | k_is | rfl | decide +kernel)
    (case ac4 => first | k_is | rfl | decide +kernel)
    (case hg4 => first | k_is | rfl | decide +kernel)
    (case hk4 => first | k_is | rfl | decide +kernel)
    (case hs4 => first | k_is | rfl | decide +kernel)
    (case hd4 => first | k_is | rfl | decide +kernel)
    (case ha4 => first | k_is | rfl | decide +kernel)
    (case hm4 => first | k_is | rfl | decide +kernel)
    (case ty4 => first | k_is | rfl | decide +kernel)
    (case hn => first | k_is | rfl | decide +kernel)
    (case ht => first | k_is | rfl | decide +kernel)
    (case p0_0 => first | k_is | rfl | decide +kernel)
    (case p0_1 => first | k_is | rfl | decide +kernel)
    (case p0_2 => first | k_is | rfl | decide +kernel)
    (case p0_3 => first | k_is | rfl | decide +kernel)
    (case p0_4 => first | k_is | rfl | decide +kernel)
    (case p1_0 => first | k_is | rfl | decide +kernel)
    (case p1_1 => first | k_is | rfl | decide +kernel)
    (case p1_2 => first | k_is | rfl | decide +kernel)
    (case p1_3 => first | k_is | rfl | decide +kernel)
    (case p1_4 => first | k_is | rfl | decide +kernel)
    (case p2_0 => first | k_is | rfl | decide +kernel)
    (case p2_1 => first | k_is | rfl | decide +kernel)
    (case p2_2 => first | k_is | rfl | decide +kernel)
    (case p2_3 => first | k_is | rfl | decide +kernel)
    (case p2_4 => first | k_is | rfl | decide +kernel)
    (case p3_0 => first | k_is | rfl | decide +kernel)
    (case p3_1 => first | k_is | rfl | decide +kernel)
    (case p3_2 => first | k_is | rfl | decide +kernel)
    (case p3_3 => first | k_is | rfl | decide +kernel)
    (case p3_4 => first | k_is | rfl | decide +kernel)
    (case p4_0 => first | k_is | rfl | decide +kernel)
    (case p4_1 => first | k_is | rfl | decide +kernel)
    (case p4_2 => first | k_is | rfl | decide +kernel)
    (case p4_3 => first | k_is | rfl | decide +kernel)
    (case p4_4 => first | k_is | rfl | decide +kernel)
    (case no1_number => first | k_is | rfl | decide +kernel)
    (case no4_x => first | k_is | rfl | decide +kernel)
    (case no4_y => first | k_is | rfl | decide +kernel)
    (case no2_count => first | k_is | rfl | decide +kernel)
    (case xl1 => first | k_is | rfl | decide +kernel)
    (case xr1 => first | k_is | rfl | decide +kernel)
    (case sa1 => first | k_is | rfl | decide +kernel)
    (case kc1 => first | k_is | rfl | decide +kernel)
    (case ic1 => first | k_is | rfl | decide +kernel)
    (case xl2 => first | k_is | rfl | decide +kernel)
    (case xr2 => first | k_is | rfl | decide +kernel)
    (case sa2 => first | k_is | rfl | decide +kernel)
    (case kc2 => first | k_is | rfl | decide +kernel)
    (case ic2 => first | k_is | rfl | decide +kernel)
    (case xl4 => first | k_is | rfl | decide +kernel)
    (case xr4 => first | k_is | rfl | decide +kernel)
    (case sa4 => first | k_is | rfl | decide +kernel)
    (case kc4 => first | k_is | rfl | decide +kernel)
    (case ic4 => first | k_is | rfl | decide +kernel)
    (case li0 => first | k_is | rfl | decide +kernel)
    (case ci0 => first | k_is | rfl | decide +kernel)
    (case ki0 => first | k_is | rfl | decide +kernel)
    (case iti0 => first | k_is | rfl | decide +kernel)
    (case li1 => first | k_is | rfl | decide +kernel)
    (case ci1 => first | k_is | rfl | decide +kernel)
    (case ki1 => first | k_is | rfl | decide +kernel)
    (case iti1 => first | k_is | rfl | decide +kernel)
    (case li2 => first | k_is | rfl | decide +kernel)
    (case ci2 => first | k_is | rfl | decide +kernel)
    (case ki2 => first | k_is | rfl | decide +kernel)
    (case iti2 => first | k_is | rfl | decide +kernel)
  case math => exact K42.math
