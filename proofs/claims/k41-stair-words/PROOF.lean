import PyProof.Rows.All
import Wide.All
import OpenK.AllK
import Wide.FinOn
import HandS.ForMost
import HandS.ForExc
import HandS.Flow
import HandS.TryMany
import HandS.ExcInit
import HandS.ExcField
import HandS.ExcIs
import HandS.CallSlots
import HandS.IsInst
import HandS.Style
import HandS.Wide
import KE.DatumOrd
import KE.KExcIs
import KE.GoesEnum
import HandS.EndBits
import HandS.Gcd
import KE.KMathGC
import HandS.OwnEq
import HandS.GenYield
import HandS.GenList
import HandS.Call
import PyProof.ForAny
import PyProof.ReprBulk
import PyProof.P3Eq
import HandS.Codes
import PySem.Challenge.RW_rimmachines_k41_stair_words
set_option Elab.async false
section
set_option Elab.async false
set_option linter.all false
set_option maxRecDepth 100000
set_option maxHeartbeats 4000000
/-! P0: values without references, the environment of a def, what it means that a heap bears them. -/
namespace P0
open PySem PySem.Spec PyProof.Rows L2

inductive Dv where
  | non | bl (b : Bool) | int (i : Int) | str (s : Str) | cl (v : V)
  | lst (xs : List Dv) | tup (xs : List Dv) | rls (xs : List Dv)
  | dct (kvs : List (Key × Dv)) | dcT (kvs : List (List Key × Dv))
  | ins (C : Addr) (fs : List (Str × Dv))

def Ext (F G : Hp) : Prop := ∀ b o, F b = some o → G b = some o
theorem Ext.refl (F : Hp) : Ext F F := fun _ _ h => h
theorem Ext.trans {F G I : Hp} (a : Ext F G) (b : Ext G I) : Ext F I := fun c o h => b c o (a c o h)
theorem Ext.none {F G : Hp} (a : Ext F G) {p : Addr} (h : G p = none) : F p = none := by
  cases e : F p with
  | none => rfl
  | some o => rw [a p o e] at h; cases h
theorem ext_upd {F : Hp} {p : Addr} {o : HO} (h : F p = none) : Ext F (upd F p o) := fun b u e => by
  rw [upd_ne (ne_of_none e h)]; exact e
theorem Rd.ext {F G : Hp} {a : Addr} {u : HO} (e : Ext F G) : Rd F a u → Rd G a u
  | .inl h => .inl (e _ _ h)
  | .inr ⟨o, h⟩ => .inr ⟨o, e _ _ h⟩
theorem SqL.ext {K : PySem.W.Frag} {F G : Hp} {a : Addr} {xs : List V} (e : Ext F G) : SqL K F a xs → SqL K G a xs
  | .inl h => .inl (Rd.ext e h)
  | .inr h => .inr h
theorem SqT.ext {K : PySem.W.Frag} {F G : Hp} {a : Addr} {xs : List V} (e : Ext F G) : SqT K F a xs → SqT K G a xs
  | .inl h => .inl (Rd.ext e h)
  | .inr h => .inr h

mutual
inductive Rep (K : PySem.W.Frag) (F : Hp) : Dv → V → Prop
  | non : Rep K F .non .non
  | bl (b : Bool) : Rep K F (.bl b) (.bl b)
  | int (i : Int) : Rep K F (.int i) (.int i)
  | str (x : Str) : Rep K F (.str x) (.str x)
  | cl (v : V) : Rep K F (.cl v) v
  | lst {a : Addr} {xs : List Dv} {vs : List V} : F a = some (.lst vs) → Reps K F xs vs → Rep K F (.lst xs) (.ref a)
  | rls {a : Addr} {xs : List Dv} {vs : List V} : SqL K F a vs → Reps K F xs vs → Rep K F (.rls xs) (.ref a)
  | tup {a : Addr} {xs : List Dv} {vs : List V} : SqT K F a vs → Reps K F xs vs → Rep K F (.tup xs) (.ref a)
  | dct {a : Addr} {ks : List Key} {xs : List Dv} {vs : List V} : F a = some (.dK (ks.zip vs)) → ks.length = xs.length → Reps K F xs vs → Rep K F (.dct (ks.zip xs)) (.ref a)
  | dcT {a : Addr} {ks : List (List Key)} {xs : List Dv} {vs : List V} : F a = some (.dT (ks.zip vs)) → ks.length = xs.length → Reps K F xs vs → Rep K F (.dcT (ks.zip xs)) (.ref a)
  | ins {a C dx : Addr} {ks : List Str} {xs : List Dv} {vs : List V} : F a = some (.ins C dx (ks.zip vs)) → ks.length = xs.length → Reps K F xs vs → Rep K F (.ins C (ks.zip xs)) (.ref a)
inductive Reps (K : PySem.W.Frag) (F : Hp) : List Dv → List V → Prop
  | nil : Reps K F [] []
  | cons {d : Dv} {v : V} {ds : List Dv} {vs : List V} : Rep K F d v → Reps K F ds vs → Reps K F (d :: ds) (v :: vs)
end

theorem Rep.mono {K : PySem.W.Frag} {F G : Hp} (e : Ext F G) {d : Dv} {v : V} (h : Rep K F d v) : Rep K G d v :=
  Rep.rec (motive_1 := fun d v _ => Rep K G d v) (motive_2 := fun ds vs _ => Reps K G ds vs)
    .non .bl .int .str .cl (fun h _ ih => .lst (e _ _ h) ih) (fun h _ ih => .rls (SqL.ext e h) ih) (fun h _ ih => .tup (SqT.ext e h) ih)
    (fun h l _ ih => .dct (e _ _ h) l ih) (fun h l _ ih => .dcT (e _ _ h) l ih) (fun h l _ ih => .ins (e _ _ h) l ih) .nil (fun _ _ a b => .cons a b) h
theorem Reps.mono {K : PySem.W.Frag} {F G : Hp} (e : Ext F G) : ∀ {ds : List Dv} {vs : List V}, Reps K F ds vs → Reps K G ds vs
  | _, _, .nil => .nil
  | _, _, .cons a b => .cons (a.mono e) (b.mono e)
section
variable {K : PySem.W.Frag} {F : Hp}
theorem Reps.length : ∀ {ds : List Dv} {vs : List V}, Reps K F ds vs → ds.length = vs.length
  | _, _, .nil => rfl
  | _, _, .cons _ b => by rw [List.length_cons, List.length_cons, b.length]
theorem Reps.get : ∀ {ds : List Dv} {vs : List V} {i : Nat} {d : Dv}, Reps K F ds vs → ds[i]? = some d → ∃ v, vs[i]? = some v ∧ Rep K F d v
  | _, _, _, _, .nil, e => by simp at e
  | _, _, 0, _, .cons r _, e => by simp at e; subst e; exact ⟨_, rfl, r⟩
  | _, _, i + 1, d, .cons _ t, e => by
    obtain ⟨u, h1, h2⟩ := Reps.get (i := i) (d := d) t (by simpa using e)
    exact ⟨u, by simpa using h1, h2⟩
theorem Reps.getV : ∀ {ds : List Dv} {vs : List V} {i : Nat} {v : V}, Reps K F ds vs → vs[i]? = some v → ∃ d, ds[i]? = some d ∧ Rep K F d v
  | _, _, _, _, .nil, e => by simp at e
  | _, _, 0, _, .cons r _, e => by simp at e; subst e; exact ⟨_, rfl, r⟩
  | _, _, i + 1, d, .cons _ t, e => by
    obtain ⟨u, h1, h2⟩ := Reps.getV (i := i) (v := d) t (by simpa using e)
    exact ⟨u, by simpa using h1, h2⟩
theorem Reps.append : ∀ {ds es : List Dv} {vs us : List V}, Reps K F ds vs → Reps K F es us → Reps K F (ds ++ es) (vs ++ us)
  | _, _, _, _, .nil, s => s
  | _, _, _, _, .cons r t, s => .cons r (t.append s)
theorem Reps.take : ∀ {ds : List Dv} {vs : List V} (n : Nat), Reps K F ds vs → Reps K F (ds.take n) (vs.take n)
  | _, _, 0, _ => .nil
  | _, _, _ + 1, .nil => .nil
  | _, _, n + 1, .cons r t => .cons r (t.take n)
theorem Reps.drop : ∀ {ds : List Dv} {vs : List V} (n : Nat), Reps K F ds vs → Reps K F (ds.drop n) (vs.drop n)
  | _, _, 0, r => r
  | _, _, _ + 1, .nil => .nil
  | _, _, n + 1, .cons _ t => t.drop n
theorem Reps.set {d : Dv} {v : V} (r : Rep K F d v) : ∀ {ds : List Dv} {vs : List V} (i : Nat), Reps K F ds vs → Reps K F (ds.set i d) (vs.set i v)
  | _, _, _, .nil => .nil
  | _, _, 0, .cons _ t => .cons r t
  | _, _, i + 1, .cons q t => .cons q (t.set r i)
theorem Reps.dropLast : ∀ {ds : List Dv} {vs : List V}, Reps K F ds vs → Reps K F ds.dropLast vs.dropLast
  | _, _, .nil => .nil
  | _, _, .cons _ .nil => .nil
  | _, _, .cons r (.cons q t) => .cons r (Reps.dropLast (.cons q t))
theorem Reps.eraseIdx : ∀ {ds : List Dv} {vs : List V} (i : Nat), Reps K F ds vs → Reps K F (ds.eraseIdx i) (vs.eraseIdx i)
  | _, _, _, .nil => .nil
  | _, _, 0, .cons _ t => t
  | _, _, i + 1, .cons r t => .cons r (t.eraseIdx i)
theorem Reps.reverse : ∀ {ds : List Dv} {vs : List V}, Reps K F ds vs → Reps K F ds.reverse vs.reverse
  | _, _, .nil => .nil
  | _, _, .cons r t => by
    rw [List.reverse_cons, List.reverse_cons]
    exact t.reverse.append (.cons r .nil)
theorem Reps.rep {ds : List Dv} {vs : List V} (h : Reps K F ds vs) : ∀ k : Nat, Reps K F (List.replicate k ds).flatten (List.replicate k vs).flatten
  | 0 => .nil
  | k + 1 => by
    rw [List.replicate_succ, List.replicate_succ, List.flatten_cons, List.flatten_cons]
    exact h.append (h.rep k)
theorem Reps.ints : ∀ (ns : List Int), Reps K F (ns.map Dv.int) (ns.map V.int)
  | [] => .nil
  | n :: ns => .cons (.int n) (Reps.ints ns)
theorem Reps.bls : ∀ (ns : List Bool), Reps K F (ns.map Dv.bl) (ns.map V.bl)
  | [] => .nil
  | n :: ns => .cons (.bl n) (Reps.bls ns)
theorem Reps.strs : ∀ (ns : List Str), Reps K F (ns.map Dv.str) (ns.map V.str)
  | [] => .nil
  | n :: ns => .cons (.str n) (Reps.strs ns)
theorem Reps.ints_inv : ∀ {ns : List Int} {vs : List V}, Reps K F (ns.map Dv.int) vs → vs = ns.map V.int
  | [], _, .nil => rfl
  | n :: ns, _, .cons r t => by cases r; rw [Reps.ints_inv t, List.map_cons]
theorem Reps.bls_inv : ∀ {ns : List Bool} {vs : List V}, Reps K F (ns.map Dv.bl) vs → vs = ns.map V.bl
  | [], _, .nil => rfl
  | n :: ns, _, .cons r t => by cases r; rw [Reps.bls_inv t, List.map_cons]
theorem Reps.strs_inv : ∀ {ns : List Str} {vs : List V}, Reps K F (ns.map Dv.str) vs → vs = ns.map V.str
  | [], _, .nil => rfl
  | n :: ns, _, .cons r t => by cases r; rw [Reps.strs_inv t, List.map_cons]
end

/-! ### mutable things -/
inductive RepO (K : PySem.W.Frag) (F : Hp) : Dv → HO → Prop
  | lst {xs : List Dv} {vs : List V} : Reps K F xs vs → RepO K F (.lst xs) (.lst vs)
  | dct {ks : List Key} {xs : List Dv} {vs : List V} : ks.length = xs.length → Reps K F xs vs → RepO K F (.dct (ks.zip xs)) (.dK (ks.zip vs))
  | dcT {ks : List (List Key)} {xs : List Dv} {vs : List V} : ks.length = xs.length → Reps K F xs vs → RepO K F (.dcT (ks.zip xs)) (.dT (ks.zip vs))
  | ins {C dx : Addr} {ks : List Str} {xs : List Dv} {vs : List V} : ks.length = xs.length → Reps K F xs vs → RepO K F (.ins C (ks.zip xs)) (.ins C dx (ks.zip vs))
theorem RepO.mono {K : PySem.W.Frag} {F G : Hp} (e : Ext F G) {d : Dv} {o : HO} : RepO K F d o → RepO K G d o
  | .lst h => .lst (h.mono e)
  | .dct l h => .dct l (h.mono e)
  | .dcT l h => .dcT l (h.mono e)
  | .ins l h => .ins l (h.mono e)
theorem RepO.rep {K : PySem.W.Frag} {F : Hp} {d : Dv} {o : HO} {p : Addr} (h : RepO K F d o) (hp : F p = none) : Rep K (upd F p o) d (.ref p) := by
  cases h with
  | lst h => exact .lst upd_same (h.mono (ext_upd hp))
  | dct l h => exact .dct upd_same l (h.mono (ext_upd hp))
  | dcT l h => exact .dcT upd_same l (h.mono (ext_upd hp))
  | ins l h => exact .ins upd_same l (h.mono (ext_upd hp))

/-- readable: frozen, or a mutable thing that stands in the heap -/
def Top (K : PySem.W.Frag) (F H : Hp) (d : Dv) (v : V) : Prop := Rep K F d v ∨ ∃ p o, v = .ref p ∧ H p = some o ∧ RepO K F d o

/-! ### trees that a slot owns, parts and all -/
inductive Ot where
  | fz (d : Dv) | lst (xs : List Ot) | tup (xs : List Ot) | dct (kvs : List (Key × Ot))
mutual
def Ot.er : Ot → Dv
  | .fz d => d
  | .lst xs => .lst (Ot.ers xs)
  | .tup xs => .tup (Ot.ers xs)
  | .dct kvs => .dct (Ot.erk kvs)
def Ot.ers : List Ot → List Dv
  | [] => []
  | t :: r => Ot.er t :: Ot.ers r
def Ot.erk : List (Key × Ot) → List (Key × Dv)
  | [] => []
  | (k, t) :: r => (k, Ot.er t) :: Ot.erk r
end
mutual
inductive RepT (K : PySem.W.Frag) (F H : Hp) : Ot → V → List Addr → Prop
  | fz {d : Dv} {v : V} : Rep K F d v → RepT K F H (.fz d) v []
  | lst {a : Addr} {xs : List Ot} {vs : List V} {R : List Addr} : H a = some (.lst vs) → RepTs K F H xs vs R → RepT K F H (.lst xs) (.ref a) (a :: R)
  | tup {a : Addr} {xs : List Ot} {vs : List V} {R : List Addr} : H a = some (.tup vs) → RepTs K F H xs vs R → RepT K F H (.tup xs) (.ref a) (a :: R)
  | dct {a : Addr} {ks : List Key} {xs : List Ot} {vs : List V} {R : List Addr} : H a = some (.dK (ks.zip vs)) → ks.length = xs.length → RepTs K F H xs vs R → RepT K F H (.dct (ks.zip xs)) (.ref a) (a :: R)
inductive RepTs (K : PySem.W.Frag) (F H : Hp) : List Ot → List V → List Addr → Prop
  | nil : RepTs K F H [] [] []
  | cons {d : Ot} {v : V} {ds : List Ot} {vs : List V} {R S : List Addr} : RepT K F H d v R → RepTs K F H ds vs S → RepTs K F H (d :: ds) (v :: vs) (R ++ S)
end
section
variable {K : PySem.W.Frag} {F H : Hp}
theorem RepTs.length : ∀ {ts : List Ot} {vs : List V} {R : List Addr}, RepTs K F H ts vs R → ts.length = vs.length
  | _, _, _, .nil => rfl
  | _, _, _, .cons _ t => by rw [List.length_cons, List.length_cons, t.length]
theorem Ot.ers_length : ∀ (ts : List Ot), (Ot.ers ts).length = ts.length
  | [] => rfl
  | t :: r => by rw [Ot.ers, List.length_cons, List.length_cons, Ot.ers_length r]
theorem Ot.erk_zip : ∀ (ks : List Key) (xs : List Ot), Ot.erk (ks.zip xs) = ks.zip (Ot.ers xs)
  | [], _ => rfl
  | _ :: _, [] => rfl
  | k :: ks, x :: xs => by rw [List.zip_cons_cons, Ot.erk, Ot.ers, List.zip_cons_cons, Ot.erk_zip ks xs]
mutual
theorem RepT.frame {F' H' : Hp} (e : Ext F F') : ∀ {t : Ot} {v : V} {R : List Addr}, RepT K F H t v R → (∀ a ∈ R, H' a = H a) → RepT K F' H' t v R
  | _, _, _, .fz h, _ => .fz (h.mono e)
  | _, _, _, .lst h hs, k => .lst ((k _ List.mem_cons_self).trans h) (RepTs.frame e hs fun a ha => k a (List.mem_cons_of_mem _ ha))
  | _, _, _, .tup h hs, k => .tup ((k _ List.mem_cons_self).trans h) (RepTs.frame e hs fun a ha => k a (List.mem_cons_of_mem _ ha))
  | _, _, _, .dct h l hs, k => .dct ((k _ List.mem_cons_self).trans h) l (RepTs.frame e hs fun a ha => k a (List.mem_cons_of_mem _ ha))
theorem RepTs.frame {F' H' : Hp} (e : Ext F F') : ∀ {ts : List Ot} {vs : List V} {R : List Addr}, RepTs K F H ts vs R → (∀ a ∈ R, H' a = H a) → RepTs K F' H' ts vs R
  | _, _, _, .nil, _ => .nil
  | _, _, _, .cons h hs, k => .cons (RepT.frame e h fun a ha => k a (List.mem_append_left _ ha)) (RepTs.frame e hs fun a ha => k a (List.mem_append_right _ ha))
end
mutual
theorem RepT.there : ∀ {t : Ot} {v : V} {R : List Addr}, RepT K F H t v R → ∀ a ∈ R, H a ≠ none
  | _, _, _, .fz _, _, h => by cases h
  | _, _, _, .lst h hs, a, ha => by
    rcases List.mem_cons.mp ha with rfl | ha
    · rw [h]; exact Option.some_ne_none _
    · exact RepTs.there hs a ha
  | _, _, _, .tup h hs, a, ha => by
    rcases List.mem_cons.mp ha with rfl | ha
    · rw [h]; exact Option.some_ne_none _
    · exact RepTs.there hs a ha
  | _, _, _, .dct h _ hs, a, ha => by
    rcases List.mem_cons.mp ha with rfl | ha
    · rw [h]; exact Option.some_ne_none _
    · exact RepTs.there hs a ha
theorem RepTs.there : ∀ {ts : List Ot} {vs : List V} {R : List Addr}, RepTs K F H ts vs R → ∀ a ∈ R, H a ≠ none
  | _, _, _, .nil, _, h => by cases h
  | _, _, _, .cons h hs, a, ha => by
    rcases List.mem_append.mp ha with ha | ha
    · exact RepT.there h a ha
    · exact RepTs.there hs a ha
end
mutual
/-- all of it frozen -/
theorem RepT.rep {G : Hp} (e : Ext F G) : ∀ {t : Ot} {v : V} {R : List Addr}, RepT K F H t v R → (∀ a ∈ R, G a = H a) → Rep K G t.er v
  | _, _, _, .fz h, _ => h.mono e
  | _, _, _, .lst h hs, k => .lst ((k _ List.mem_cons_self).trans h) (RepTs.rep e hs fun a ha => k a (List.mem_cons_of_mem _ ha))
  | _, _, _, .tup h hs, k => .tup (SqT.of ((k _ List.mem_cons_self).trans h)) (RepTs.rep e hs fun a ha => k a (List.mem_cons_of_mem _ ha))
  | _, _, _, .dct h l hs, k => by
    rw [Ot.er, Ot.erk_zip]
    exact .dct ((k _ List.mem_cons_self).trans h) (by rw [l, Ot.ers_length]) (RepTs.rep e hs fun a ha => k a (List.mem_cons_of_mem _ ha))
theorem RepTs.rep {G : Hp} (e : Ext F G) : ∀ {ts : List Ot} {vs : List V} {R : List Addr}, RepTs K F H ts vs R → (∀ a ∈ R, G a = H a) → Reps K G (Ot.ers ts) vs
  | _, _, _, .nil, _ => .nil
  | _, _, _, .cons h hs, k => .cons (RepT.rep e h fun a ha => k a (List.mem_append_left _ ha)) (RepTs.rep e hs fun a ha => k a (List.mem_append_right _ ha))
end
end

/-! ### the environment -/
inductive Sl where
  | no | val (d : Dv) | mu (io : Bool) (d : Dv)
  /-- the exception that an except suite holds -/
  | exn
  /-- an owned tree -/
  | ot (t : Ot)
abbrev VE := List Sl
structure Er where
  name : Str
  fs : Option (List (Str × Dv))

inductive R (α : Type) where
  | ok (a : α) (ρ : VE) | exc (e : Er) (ρ : VE) | bad
def M (α : Type) := VE → R α
namespace M
def pur {α : Type} (a : α) : M α := fun ρ => .ok a ρ
def bnd {α β : Type} (m : M α) (f : α → M β) : M β := fun ρ => match m ρ with
  | .ok a ρ' => f a ρ'
  | .exc e ρ' => .exc e ρ'
  | .bad => .bad
def bad {α : Type} : M α := fun _ => .bad
def grd (c : Prop) [Decidable c] : M Unit := fun ρ => if c then .ok () ρ else .bad
def opt {α : Type} (o : Option α) : M α := fun ρ => match o with
  | some a => .ok a ρ
  | none => .bad
end M
instance : Monad M where
  pure := M.pur
  bind := M.bnd

def RP {α : Type} (r : R α) (ok : α → VE → Prop) (ex : Er → VE → Prop) : Prop := match r with
  | .ok a ρ => ok a ρ
  | .exc e ρ => ex e ρ
  | .bad => False
theorem RP_bnd {α β : Type} {m : M α} {f : α → M β} {ρ : VE} {ok : β → VE → Prop} {ex : Er → VE → Prop} : RP ((m >>= f) ρ) ok ex = RP (m ρ) (fun a ρ' => RP (f a ρ') ok ex) ex := by
  show RP (M.bnd m f ρ) ok ex = _
  unfold M.bnd
  cases m ρ <;> rfl
theorem RP.imp {α : Type} {r : R α} {ok ok' : α → VE → Prop} {ex ex' : Er → VE → Prop} (h : RP r ok ex) (h1 : ∀ a ρ, ok a ρ → ok' a ρ) (h2 : ∀ e ρ, ex e ρ → ex' e ρ) : RP r ok' ex' := by
  cases r with
  | ok a ρ => exact h1 _ _ h
  | exc e ρ => exact h2 _ _ h
  | bad => exact h
theorem RP_grd {c : Prop} [Decidable c] {ρ : VE} {ok : Unit → VE → Prop} {ex : Er → VE → Prop} (h : RP (M.grd c ρ) ok ex) : c ∧ ok () ρ := by
  unfold M.grd at h
  split at h
  · exact ⟨by assumption, h⟩
  · exact h.elim
theorem RP_opt {α : Type} {o : Option α} {ρ : VE} {ok : α → VE → Prop} {ex : Er → VE → Prop} (h : RP (M.opt o ρ) ok ex) : ∃ a, o = some a ∧ ok a ρ := by
  cases o with
  | none => exact h.elim
  | some a => exact ⟨a, rfl, h⟩
@[simp] theorem run_opt_some {α : Type} (a : α) (ρ : VE) : M.opt (some a) ρ = .ok a ρ := rfl
@[simp] theorem run_opt_none {α : Type} (ρ : VE) : (M.opt none : M α) ρ = .bad := rfl
@[simp] theorem run_pure {α : Type} (a : α) (ρ : VE) : (pure a : M α) ρ = .ok a ρ := rfl
@[simp] theorem run_bind {α β : Type} (m : M α) (f : α → M β) (ρ : VE) : (m >>= f) ρ = match m ρ with
  | .ok a ρ' => f a ρ'
  | .exc e ρ' => .exc e ρ'
  | .bad => .bad := rfl
@[simp] theorem run_grd (c : Prop) [Decidable c] (ρ : VE) : M.grd c ρ = if c then .ok () ρ else .bad := rfl
@[simp] theorem run_bad {α : Type} (ρ : VE) : (M.bad : M α) ρ = .bad := rfl

/-- the entry: its heap, what was frozen, the in-out cells by slot -/
structure Gx where
  H0 : Hp
  F0 : Hp
  ios : List (Nat × Addr)
  /-- what is held beside the slots while a part is reckoned -/
  held : Hp := fun _ => none
  /-- where the exception at hand stands -/
  exa : Option Addr := none

/-- what stands beside is held, too -/
def plus (G F : Hp) : Hp := fun b => match G b with
  | some o => some o
  | none => F b
def one (p : Addr) (o : HO) : Hp := upd (fun _ => none) p o
def cells (R : List Addr) (H : Hp) : Hp := fun b => if b ∈ R then H b else none
theorem plus_one {F : Hp} {p : Addr} {o : HO} : plus (one p o) F = upd F p o := by
  funext b
  unfold plus one
  by_cases h : b = p
  · rw [h, upd_same, upd_same]
  · rw [upd_ne h, upd_ne h]
theorem plus_some {G F : Hp} {b : Addr} {o : HO} (h : G b = some o) : plus G F b = some o := by unfold plus; rw [h]
theorem plus_none {G F : Hp} {b : Addr} (h : G b = none) : plus G F b = F b := by unfold plus; rw [h]
theorem plus_is {G F : Hp} {b : Addr} (h : plus G F b = none) : G b = none ∧ F b = none := by
  cases e : G b with
  | none => rw [plus_none e] at h; exact ⟨rfl, h⟩
  | some o => rw [plus_some e] at h; cases h
theorem plus_or {G F : Hp} {b : Addr} {o : HO} (h : plus G F b = some o) : G b = some o ∨ (G b = none ∧ F b = some o) := by
  cases e : G b with
  | none => rw [plus_none e] at h; exact .inr ⟨rfl, h⟩
  | some u => rw [plus_some e] at h; exact .inl h
theorem one_ne {p b : Addr} {o : HO} (h : b ≠ p) : one p o b = none := upd_ne h
theorem one_same {p : Addr} {o : HO} : one p o p = some o := upd_same
theorem ext_plus {G F : Hp} (h : ∀ b o, G b = some o → F b = none) : Ext F (plus G F) := fun b o e => by
  cases q : G b with
  | none => rw [plus_none q]; exact e
  | some u => rw [h b u q] at e; cases e

/-- slot i, its value x, what it owns -/
def SlOk (K : PySem.W.Frag) (g : Gx) (F H : Hp) (i : Nat) : Sl → Option V → List Addr → Prop
  | .no, _, R => R = []
  | .val d, x, R => (∃ v, x = some v ∧ Rep K F d v) ∧ R = []
  | .mu b d, x, R => ∃ p o, x = some (.ref p) ∧ H p = some o ∧ RepO K F d o ∧ R = [p] ∧ (b = true → (i, p) ∈ g.ios) ∧ (b = false → g.H0 p = none)
  | .exn, x, R => (∃ a, g.exa = some a ∧ x = some (.ref a)) ∧ R = []
  | .ot t, x, R => ∃ v, x = some v ∧ RepT K F H t v R ∧ ∀ a ∈ R, g.H0 a = none
structure Own (K : PySem.W.Frag) (g : Gx) (F H : Hp) (ρ : VE) (σ : L2.St) (Rs : List (List Addr)) : Prop where
  len : ρ.length = σ.length
  lenR : ρ.length = Rs.length
  ok : ∀ (i : Nat) (s : Sl) (x : Option V) (R : List Addr), ρ[i]? = some s → σ[i]? = some x → Rs[i]? = some R → SlOk K g F H i s x R
  nd : ∀ (i : Nat) (R : List Addr), Rs[i]? = some R → R.Nodup
  dis : ∀ (i j : Nat) (R S : List Addr), i ≠ j → Rs[i]? = some R → Rs[j]? = some S → ∀ a ∈ R, a ∉ S
  out : ∀ (i : Nat) (R : List Addr), Rs[i]? = some R → ∀ a ∈ R, F a = none ∧ g.held a = none ∧ (g.H0 a = none ∨ (i, a) ∈ g.ios)
  hel : ∀ b o, g.held b = some o → H b = some o ∧ F b = none
structure Rel (K : PySem.W.Frag) (g : Gx) (F : Hp) (ρ : VE) (σ : L2.St) (H : Hp) : Prop where
  ext : Ext F H
  f0 : Ext g.F0 F
  new : ∀ b, F b ≠ none → g.F0 b ≠ none ∨ g.H0 b = none
  keep : ∀ b o, g.H0 b = some o → (∀ i, (i, b) ∉ g.ios) → H b = some o
  dom : ∀ b, g.H0 b ≠ none → H b ≠ none
  io : ∀ (i : Nat) (p : Addr), (i, p) ∈ g.ios → σ[i]? = some (some (V.ref p)) ∧ ∃ d, ρ[i]? = some (Sl.mu true d)
  own : ∃ Rs, Own K g F H ρ σ Rs

/-- an expression's value: frozen, fresh, the thing of a slot, an owned tree -/
inductive RV where
  | d (d : Dv) | fr (d : Dv) | bor (i : Nat) | ow (t : Ot)
def Gx.hold (g : Gx) (G : Hp) : Gx := { g with held := plus G g.held }
def RvOk (K : PySem.W.Frag) (g : Gx) (F : Hp) (ρ : VE) (σ : L2.St) (H : Hp) : RV → V → Prop
  | .d d, v => Rep K F d v
  | .fr d, v => ∃ p o, v = .ref p ∧ RepO K F d o ∧ g.H0 p = none ∧ g.held p = none ∧ Rel K (g.hold (one p o)) F ρ σ H
  | .bor i, v => σ[i]? = some (some v)
  | .ow t, v => ∃ R, RepT K F H t v R ∧ R.Nodup ∧ (∀ a ∈ R, g.H0 a = none ∧ g.held a = none) ∧ Rel K (g.hold (cells R H)) F ρ σ H

section
variable {K : PySem.W.Frag} {g : Gx} {F H F' H' G : Hp} {ρ : VE} {σ : L2.St} {Rs : List (List Addr)} {p : Addr} {o : HO} {d : Dv} {i : Nat} {s : Sl} {x : Option V} {R : List Addr}
theorem SlOk.there (h : SlOk K g F H i s x R) : ∀ a ∈ R, H a ≠ none := by
  cases s with
  | no => obtain rfl := h; intro a ha; cases ha
  | val d => obtain ⟨_, rfl⟩ := h; intro a ha; cases ha
  | exn => obtain ⟨_, rfl⟩ := h; intro a ha; cases ha
  | mu b d =>
    obtain ⟨p, o, _, h2, _, rfl, _⟩ := h
    intro a ha
    rw [List.mem_singleton.mp ha, h2]; exact Option.some_ne_none _
  | ot t => obtain ⟨v, _, h2, _⟩ := h; exact h2.there
theorem SlOk.frame (e : Ext F F') (k : ∀ a ∈ R, H' a = H a) (h : SlOk K g F H i s x R) : SlOk K g F' H' i s x R := by
  cases s with
  | no => exact h
  | val d => obtain ⟨⟨v, h1, h2⟩, h3⟩ := h; exact ⟨⟨v, h1, h2.mono e⟩, h3⟩
  | exn => exact h
  | mu b d =>
    obtain ⟨p, o, h1, h2, h3, rfl, h4, h5⟩ := h
    exact ⟨p, o, h1, (k p List.mem_cons_self).trans h2, h3.mono e, rfl, h4, h5⟩
  | ot t => obtain ⟨v, h1, h2, h3⟩ := h; exact ⟨v, h1, h2.frame e k, h3⟩
theorem SlOk.reg {g' : Gx} (h1 : g'.ios = g.ios) (h2 : g'.H0 = g.H0) (h3 : g'.exa = g.exa) (h : SlOk K g F H i s x R) : SlOk K g' F H i s x R := by
  cases s with
  | no => exact h
  | val d => exact h
  | exn => unfold SlOk at h ⊢; rw [h3]; exact h
  | mu b d => unfold SlOk at h ⊢; rw [h1, h2]; exact h
  | ot t => unfold SlOk at h ⊢; rw [h2]; exact h
theorem nodup1 {α : Type} (p : α) : [p].Nodup := List.nodup_cons.mpr ⟨List.not_mem_nil, List.nodup_nil⟩
theorem lt_of_get {α : Type} {l : List α} {i : Nat} {x : α} (h : l[i]? = some x) : i < l.length := by
  rcases Nat.lt_or_ge i l.length with y | y
  · exact y
  · rw [List.getElem?_eq_none y] at h; cases h
theorem get_ex {α : Type} {l : List α} {i : Nat} (h : i < l.length) : ∃ x, l[i]? = some x := ⟨_, List.getElem?_eq_getElem h⟩
theorem get_set {α : Type} {l : List α} {i j : Nat} {x y : α} (h : (l.set i x)[j]? = some y) : (i = j ∧ y = x) ∨ (i ≠ j ∧ l[j]? = some y) := by
  by_cases z : i = j
  · subst z
    rw [List.getElem?_set_self (by have := lt_of_get h; rwa [List.length_set] at this)] at h
    exact .inl ⟨rfl, (Option.some.inj h).symm⟩
  · rw [List.getElem?_set_ne z] at h
    exact .inr ⟨z, h⟩
namespace Own
theorem at' (h : Own K g F H ρ σ Rs) (hi : ρ[i]? = some s) : ∃ x R, σ[i]? = some x ∧ Rs[i]? = some R ∧ SlOk K g F H i s x R := by
  have l := lt_of_get hi
  obtain ⟨x, hx⟩ := get_ex (l := σ) (i := i) (by rw [← h.len]; exact l)
  obtain ⟨R, hR⟩ := get_ex (l := Rs) (i := i) (by rw [← h.lenR]; exact l)
  exact ⟨x, R, hx, hR, h.ok i s x R hi hx hR⟩
theorem ok' (h : Own K g F H ρ σ Rs) (hR : Rs[i]? = some R) : ∃ s x, ρ[i]? = some s ∧ σ[i]? = some x ∧ SlOk K g F H i s x R := by
  have l := lt_of_get hR
  obtain ⟨s, hs⟩ := get_ex (l := ρ) (i := i) (by rw [h.lenR]; exact l)
  obtain ⟨x, hx⟩ := get_ex (l := σ) (i := i) (by rw [← h.len, h.lenR]; exact l)
  exact ⟨s, x, hs, hx, h.ok i s x R hs hx hR⟩
theorem there (h : Own K g F H ρ σ Rs) (hR : Rs[i]? = some R) {a : Addr} (ha : a ∈ R) : H a ≠ none := by
  obtain ⟨s, x, _, _, k⟩ := h.ok' hR
  exact k.there a ha
theorem frame (h : Own K g F H ρ σ Rs) (e : Ext F F') (hH : ∀ (i : Nat) (R : List Addr), Rs[i]? = some R → ∀ a ∈ R, H' a = H a) (hF : ∀ (i : Nat) (R : List Addr), Rs[i]? = some R → ∀ a ∈ R, F' a = none) (hl : ∀ b o, g.held b = some o → H' b = some o ∧ F' b = none) : Own K g F' H' ρ σ Rs where
  len := h.len
  lenR := h.lenR
  ok := fun i s x R h1 h2 h3 => (h.ok i s x R h1 h2 h3).frame e (hH i R h3)
  nd := h.nd
  dis := h.dis
  out := fun i R hR a ha => ⟨hF i R hR a ha, (h.out i R hR a ha).2⟩
  hel := hl
theorem set (h : Own K g F H ρ σ Rs) (i : Nat) {s' : Sl} {x' : Option V} {R' : List Addr} (ok' : SlOk K g F H i s' x' R') (nd' : R'.Nodup) (dis' : ∀ (j : Nat) (R : List Addr), i ≠ j → Rs[j]? = some R → ∀ a ∈ R', a ∉ R)
    (out' : ∀ a ∈ R', F a = none ∧ g.held a = none ∧ (g.H0 a = none ∨ (i, a) ∈ g.ios)) : Own K g F H (ρ.set i s') (σ.set i x') (Rs.set i R') where
  len := by rw [List.length_set, List.length_set]; exact h.len
  lenR := by rw [List.length_set, List.length_set]; exact h.lenR
  ok := fun j s x R h1 h2 h3 => by
    rcases get_set h1 with ⟨rfl, rfl⟩ | ⟨z, h1⟩
    · rcases get_set h2 with ⟨_, rfl⟩ | ⟨z, _⟩
      · rcases get_set h3 with ⟨_, rfl⟩ | ⟨z, _⟩
        · exact ok'
        · exact absurd rfl z
      · exact absurd rfl z
    · rw [List.getElem?_set_ne z] at h2 h3
      exact h.ok j s x R h1 h2 h3
  nd := fun j R hR => by
    rcases get_set hR with ⟨rfl, rfl⟩ | ⟨z, hR⟩
    · exact nd'
    · exact h.nd j R hR
  dis := fun j k R S hjk hR hS a ha hb => by
    rcases get_set hR with ⟨z, y⟩ | ⟨z, hR'⟩
    · subst z; subst y
      rw [List.getElem?_set_ne hjk] at hS
      exact dis' k S hjk hS a ha hb
    · rcases get_set hS with ⟨z', y⟩ | ⟨z', hS'⟩
      · subst y
        exact dis' j R z hR' a hb ha
      · exact h.dis j k R S hjk hR' hS' a ha hb
  out := fun j R hR a ha => by
    rcases get_set hR with ⟨rfl, rfl⟩ | ⟨z, hR⟩
    · exact out' a ha
    · exact h.out j R hR a ha
  hel := h.hel
/-- slot i owns nothing any more -/
theorem drop (h : Own K g F H ρ σ Rs) (i : Nat) : Own K g F H (ρ.set i .no) σ (Rs.set i []) where
  len := by rw [List.length_set]; exact h.len
  lenR := by rw [List.length_set, List.length_set]; exact h.lenR
  ok := fun j s x R h1 h2 h3 => by
    rcases get_set h1 with ⟨rfl, rfl⟩ | ⟨z, h1⟩
    · rcases get_set h3 with ⟨_, rfl⟩ | ⟨z, _⟩
      · rfl
      · exact absurd rfl z
    · rw [List.getElem?_set_ne z] at h3
      exact h.ok j s x R h1 h2 h3
  nd := fun j R hR => by
    rcases get_set hR with ⟨rfl, rfl⟩ | ⟨z, hR⟩
    · exact List.nodup_nil
    · exact h.nd j R hR
  dis := fun j k R S hjk hR hS a ha hb => by
    rcases get_set hR with ⟨_, y⟩ | ⟨z, hR'⟩
    · subst y; cases ha
    · rcases get_set hS with ⟨_, y⟩ | ⟨z', hS'⟩
      · subst y; cases hb
      · exact h.dis j k R S hjk hR' hS' a ha hb
  out := fun j R hR a ha => by
    rcases get_set hR with ⟨rfl, rfl⟩ | ⟨z, hR⟩
    · cases ha
    · exact h.out j R hR a ha
  hel := h.hel
/-- less is held -/
theorem unhold (h : Own K (g.hold G) F H ρ σ Rs) (hG : ∀ b o, G b = some o → g.held b = none) : Own K g F H ρ σ Rs where
  len := h.len
  lenR := h.lenR
  ok := fun i s x R h1 h2 h3 => (h.ok i s x R h1 h2 h3).reg rfl rfl rfl
  nd := h.nd
  dis := h.dis
  out := fun i R hR a ha => by
    obtain ⟨h1, h2, h3⟩ := h.out i R hR a ha
    exact ⟨h1, (plus_is h2).2, h3⟩
  hel := fun b o e => h.hel b o (by
    show plus G g.held b = some o
    cases q : G b with
    | none => rw [plus_none q]; exact e
    | some u => rw [hG b u q] at e; cases e)
/-- more is held -/
theorem hold (h : Own K g F H ρ σ Rs) (h1 : ∀ b o, G b = some o → H b = some o ∧ F b = none) (h2 : ∀ (i : Nat) (R : List Addr), Rs[i]? = some R → ∀ a ∈ R, G a = none) : Own K (g.hold G) F H ρ σ Rs where
  len := h.len
  lenR := h.lenR
  ok := fun i s x R k1 k2 k3 => (h.ok i s x R k1 k2 k3).reg rfl rfl rfl
  nd := h.nd
  dis := h.dis
  out := fun i R hR a ha => by
    obtain ⟨k1, k2, k3⟩ := h.out i R hR a ha
    exact ⟨k1, by show plus G g.held a = none; rw [plus_none (h2 i R hR a ha)]; exact k2, k3⟩
  hel := fun b o e => by
    rcases plus_or (show plus G g.held b = some o from e) with e | ⟨_, e⟩
    · exact h1 b o e
    · exact h.hel b o e
end Own

/-! ### what it tells of the slots -/
theorem Rel.len (r : Rel K g F ρ σ H) : ρ.length = σ.length := let ⟨_, h⟩ := r.own; h.len
theorem Rel.val (r : Rel K g F ρ σ H) (i : Nat) (d : Dv) (h : ρ[i]? = some (Sl.val d)) : ∃ v, σ[i]? = some (some v) ∧ Rep K F d v := by
  obtain ⟨Rs, w⟩ := r.own
  obtain ⟨x, R, h1, _, ⟨v, rfl, h3⟩, _⟩ := w.at' h
  exact ⟨v, h1, h3⟩
theorem Rel.mu (r : Rel K g F ρ σ H) (i : Nat) (b : Bool) (d : Dv) (h : ρ[i]? = some (Sl.mu b d)) : ∃ p o, σ[i]? = some (some (V.ref p)) ∧ F p = none ∧ H p = some o ∧ RepO K F d o ∧ (b = false → g.H0 p = none) := by
  obtain ⟨Rs, w⟩ := r.own
  obtain ⟨x, R, h1, h2, p, o, rfl, h4, h5, rfl, h6, h7⟩ := w.at' h
  exact ⟨p, o, h1, (w.out i _ h2 p List.mem_cons_self).1, h4, h5, h7⟩
theorem Rel.exs (r : Rel K g F ρ σ H) (i : Nat) (h : ρ[i]? = some Sl.exn) : ∃ a, g.exa = some a ∧ σ[i]? = some (some (V.ref a)) := by
  obtain ⟨Rs, w⟩ := r.own
  obtain ⟨x, R, h1, _, ⟨a, h2, rfl⟩, _⟩ := w.at' h
  exact ⟨a, h2, h1⟩
theorem Rel.lt (r : Rel K g F ρ σ H) {s : Sl} (h : ρ[i]? = some s) : i < ρ.length := lt_of_get h
theorem Rel.freeH0 (r : Rel K g F ρ σ H) (h : H p = none) : g.H0 p = none := by
  cases e : g.H0 p with
  | none => rfl
  | some u => exact absurd h (r.dom p (by rw [e]; exact Option.some_ne_none u))
theorem Rel.noHeld (r : Rel K g F ρ σ H) (h : H p = none) : g.held p = none := by
  obtain ⟨Rs, w⟩ := r.own
  cases e : g.held p with
  | none => rfl
  | some u =>
    have z := (w.hel p u e).1
    rw [h] at z; cases z

/-! ### what is done to it -/
/-- a new object is laid and held -/
theorem Rel.allocH (r : Rel K g F ρ σ H) (h : H p = none) : Rel K (g.hold (one p o)) F ρ σ (upd H p o) where
  ext := fun b u e => by rw [upd_ne (ne_of_none (r.ext b u e) h)]; exact r.ext b u e
  f0 := r.f0
  new := r.new
  keep := fun b u e n => by rw [upd_ne (ne_of_none (r.keep b u e n) h)]; exact r.keep b u e n
  dom := fun b e => by
    by_cases z : b = p
    · rw [z, upd_same]; exact Option.some_ne_none _
    · rw [upd_ne z]; exact r.dom b e
  io := r.io
  own := by
    obtain ⟨Rs, w⟩ := r.own
    have nin : ∀ (i : Nat) (R : List Addr), Rs[i]? = some R → ∀ a ∈ R, a ≠ p := fun i R hR a ha z => w.there hR ha (by rw [z]; exact h)
    refine ⟨Rs, (w.frame (Ext.refl F) (fun i R hR a ha => upd_ne (nin i R hR a ha)) (fun i R hR a ha => (w.out i R hR a ha).1) fun b u e => ?_).hold (fun b u e => ?_) fun i R hR a ha => one_ne (nin i R hR a ha)⟩
    · obtain ⟨a1, a2⟩ := w.hel b u e
      exact ⟨by rw [upd_ne (ne_of_none a1 h)]; exact a1, a2⟩
    · by_cases z : b = p
      · subst z
        rw [one_same] at e; cases e
        exact ⟨upd_same, r.ext.none h⟩
      · rw [one_ne z] at e; cases e
theorem Rel.unhold (r : Rel K (g.hold G) F ρ σ H) (hG : ∀ b o, G b = some o → g.held b = none) : Rel K g F ρ σ H where
  ext := r.ext
  f0 := r.f0
  new := r.new
  keep := r.keep
  dom := r.dom
  io := r.io
  own := let ⟨Rs, w⟩ := r.own; ⟨Rs, w.unhold hG⟩
theorem one_held (nh : g.held p = none) : ∀ b u, one p o b = some u → g.held b = none := fun b u e => by
  by_cases z : b = p
  · rw [z]; exact nh
  · rw [one_ne z] at e; cases e
theorem Rel.alloc (r : Rel K g F ρ σ H) (h : H p = none) : Rel K g F ρ σ (upd H p o) := (r.allocH h).unhold (one_held (r.noHeld h))
theorem Rel.fresh (r : Rel K g F ρ σ H) (h : H p = none) (ho : RepO K F d o) : RvOk K g F ρ σ (upd H p o) (.fr d) (.ref p) :=
  ⟨p, o, rfl, ho, r.freeH0 h, r.noHeld h, r.allocH h⟩
/-- what is held is frozen -/
theorem Rel.freezeG (r : Rel K (g.hold G) F ρ σ H) (h0 : ∀ b o, G b = some o → g.H0 b = none ∧ g.held b = none) : Rel K g (plus G F) ρ σ H := by
  obtain ⟨Rs, w⟩ := r.own
  have hl : ∀ b o, G b = some o → H b = some o ∧ F b = none := fun b o e => w.hel b o (plus_some e)
  have eF : Ext F (plus G F) := ext_plus fun b o e => (hl b o e).2
  refine { ext := fun b u e => ?_, f0 := r.f0.trans eF, new := fun b e => ?_, keep := r.keep, dom := r.dom, io := r.io, own := ⟨Rs, ?_⟩ }
  · rcases plus_or e with e | ⟨_, e⟩
    · exact (hl b u e).1
    · exact r.ext b u e
  · cases q : G b with
    | some u => exact .inr (h0 b u q).1
    | none => rw [plus_none q] at e; exact r.new b e
  · have w' := w.unhold fun b o e => (h0 b o e).2
    refine w'.frame eF (fun _ _ _ _ _ => rfl) (fun i R hR a ha => ?_) fun b o e => ⟨(w'.hel b o e).1, ?_⟩
    · have k := w.out i R hR a ha
      rw [plus_none (plus_is k.2.1).1]; exact k.1
    · cases q : G b with
      | none => rw [plus_none q]; exact (w'.hel b o e).2
      | some u => rw [(h0 b u q).2] at e; cases e
theorem Rel.freeze (r : Rel K (g.hold (one p o)) F ρ σ H) (h0 : g.H0 p = none) (nh : g.held p = none) : Rel K g (upd F p o) ρ σ H := by
  rw [← plus_one]
  refine r.freezeG fun b u e => ?_
  by_cases z : b = p
  · rw [z]; exact ⟨h0, nh⟩
  · rw [one_ne z] at e; cases e
theorem Rel.heldAt (r : Rel K (g.hold (one p o)) F ρ σ H) : H p = some o ∧ F p = none := let ⟨_, w⟩ := r.own; w.hel p o (plus_some one_same)
/-- a held thing is written -/
theorem Rel.writeH {o' : HO} (r : Rel K (g.hold (one p o)) F ρ σ H) (h0 : g.H0 p = none) (nh : g.held p = none) : Rel K (g.hold (one p o')) F ρ σ (upd H p o') := by
  obtain ⟨hp, hF⟩ := r.heldAt
  obtain ⟨Rs, w⟩ := r.own
  have nin : ∀ (i : Nat) (R : List Addr), Rs[i]? = some R → ∀ a ∈ R, a ≠ p := fun i R hR a ha z => by
    have k := (plus_is (w.out i R hR a ha).2.1).1
    rw [z, one_same] at k; cases k
  refine { ext := fun b u e => by rw [upd_ne (ne_of_none e hF)]; exact r.ext b u e, f0 := r.f0, new := r.new, keep := fun b u e n => by rw [upd_ne (ne_of_none e h0)]; exact r.keep b u e n, dom := fun b e => ?_, io := r.io, own := ⟨Rs, ?_⟩ }
  · by_cases z : b = p
    · rw [z, upd_same]; exact Option.some_ne_none _
    · rw [upd_ne z]; exact r.dom b e
  · have w' := w.unhold (one_held nh)
    refine (w'.frame (Ext.refl F) (fun i R hR a ha => upd_ne (nin i R hR a ha)) (fun i R hR a ha => (w'.out i R hR a ha).1) fun b u e => ?_).hold (fun b u e => ?_) fun i R hR a ha => one_ne (nin i R hR a ha)
    · obtain ⟨a1, a2⟩ := w'.hel b u e
      exact ⟨by rw [upd_ne (ne_of_none e nh)]; exact a1, a2⟩
    · by_cases z : b = p
      · subst z
        rw [one_same] at e; cases e
        exact ⟨upd_same, hF⟩
      · rw [one_ne z] at e; cases e
theorem cells_mem {b : Addr} {u : HO} (h : cells R H b = some u) : b ∈ R := by
  unfold cells at h
  split at h
  · assumption
  · cases h
theorem cells_in {b : Addr} (h : b ∈ R) : cells R H b = H b := if_pos h
theorem cells_out {b : Addr} (h : b ∉ R) : cells R H b = none := if_neg h
theorem cells_at {b : Addr} {u : HO} (h : b ∈ R) (e : H b = some u) : cells R H b = some u := (cells_in h).trans e
theorem Rel.extG (r : Rel K (g.hold G) F ρ σ H) : Ext F (plus G F) := ext_plus fun b o e => let ⟨_, w⟩ := r.own; (w.hel b o (plus_some e)).2
theorem Rel.freezeC {t : Ot} {v : V} (r : Rel K (g.hold (cells R H)) F ρ σ H) (_ : RepT K F H t v R) (h3 : ∀ a ∈ R, g.H0 a = none ∧ g.held a = none) : Rel K g (plus (cells R H) F) ρ σ H := r.freezeG fun b _ e => h3 b (cells_mem e)
theorem Rel.repC {t : Ot} {v : V} (r : Rel K (g.hold (cells R H)) F ρ σ H) (h : RepT K F H t v R) : Rep K (plus (cells R H) F) t.er v := h.rep r.extG fun a ha => by
  obtain ⟨u, q⟩ := Option.ne_none_iff_exists'.mp (h.there a ha)
  rw [plus_some (cells_at ha q), q]
theorem Rel.offC {t : Ot} {v : V} (r : Rel K (g.hold (cells R H)) F ρ σ H) (h : RepT K F H t v R) : ∀ a ∈ R, F a = none := fun a ha => by
  obtain ⟨u, q⟩ := Option.ne_none_iff_exists'.mp (h.there a ha)
  obtain ⟨_, w⟩ := r.own
  exact (w.hel a u (plus_some (cells_at ha q))).2
end
end P0
end
section
set_option Elab.async false
set_option linter.all false
set_option maxRecDepth 100000
set_option maxHeartbeats 4000000
/-! P0, the judgements: an expression, a test, arguments, a statement, each with what it does in the environment. -/
namespace P0
open PySem PySem.Spec L2

inductive AV where
  | d (d : Dv) | bor (i : Nat)
def AvOk (K : PySem.W.Frag) (F : Hp) (σ : L2.St) : AV → V → Prop
  | .d d, v => Rep K F d v
  | .bor i, v => σ[i]? = some (some v)
theorem AvOk.mono {K : PySem.W.Frag} {F G : Hp} {σ : L2.St} (e : Ext F G) : ∀ {a : AV} {v : V}, AvOk K F σ a v → AvOk K G σ a v
  | .d _, _, h => Rep.mono e h
  | .bor _, _, h => h
def ErOk (K : PySem.W.Frag) (mg : Str → Option Value) (F : Hp) (er : Er) (cls : Value) (d : Option Addr) : Prop :=
  ∃ C, mg er.name = some (.ref C) ∧ cls = .ref C ∧ match er.fs with
    | none => d = none
    | some fs => ∃ dd ks xs vs, d = some dd ∧ fs = List.zip ks xs ∧ ks.length = xs.length ∧ F dd = some (.xd (List.zip ks vs)) ∧ Reps K F xs vs
/-- what is wished of an exception; what is known of the entry -/
structure Wh where
  w : WX
  p : Gx → Prop := fun _ => True
theorem ErOk.mono {K : PySem.W.Frag} {mg : Str → Option Value} {F G : Hp} {er : Er} {cls : Value} {d : Option Addr} (e : Ext F G) (h : ErOk K mg F er cls d) : ErOk K mg G er cls d := by
  obtain ⟨C, h1, h2, h3⟩ := h
  refine ⟨C, h1, h2, ?_⟩
  cases q : er.fs with
  | none => rw [q] at h3; exact h3
  | some fs =>
    rw [q] at h3
    obtain ⟨dd, ks, xs, vs, a1, a2, a3, a4, a5⟩ := h3
    exact ⟨dd, ks, xs, vs, a1, a2, a3, e _ _ a4, a5.mono e⟩
section
variable (X : Cx) (g : Gx) (F : Hp) (σ : L2.St)
def okE (Q : VK) (rv : RV) (ρ' : VE) : Prop := ∀ v F' H', Ext F F' → Rel X.K g F' ρ' σ H' → RvOk X.K g F' ρ' σ H' rv v → Q v H'
def okF (Q : VK) (av : AV) (ρ' : VE) : Prop := ∀ v F' H', Ext F F' → Rel X.K g F' ρ' σ H' → AvOk X.K F' σ av v → Q v H'
def okT (Q : Bool → Hp → Prop) (b : Bool) (ρ' : VE) : Prop := ∀ F' H', Ext F F' → Rel X.K g F' ρ' σ H' → Q b H'
def okA (Q : List V → Hp → Prop) (as : List AV) (ρ' : VE) : Prop := ∀ vs F' H', Ext F F' → Rel X.K g F' ρ' σ H' → Paired (AvOk X.K F' σ) as vs → Q vs H'
def exE (W : Wh) (er : Er) (ρ' : VE) : Prop := ∀ cls d σ' F' H', Ext F F' → Rel X.K g F' ρ' σ' H' → ErOk X.K X.mg F' er cls d → W.w cls d σ' H'
end
structure SE (X : Cx) (W : Wh) (e : Expr) (m : M RV) : Prop where
  ex : ∃ t, PE X e t ∧ ∀ g, W.p g → ∀ F ρ σ H Q, Rel X.K g F ρ σ H → RP (m ρ) (okE X g F σ Q) (exE X g F W) → t σ H Q
structure SF (X : Cx) (W : Wh) (e : Expr) (m : M AV) : Prop where
  ex : ∃ t, PE X e t ∧ ∀ g, W.p g → ∀ F ρ σ H Q, Rel X.K g F ρ σ H → RP (m ρ) (okF X g F σ Q) (exE X g F W) → t σ H Q
structure STt (X : Cx) (W : Wh) (e : Expr) (m : M Bool) : Prop where
  ex : ∃ t, PT X e t ∧ ∀ g, W.p g → ∀ F ρ σ H Q, Rel X.K g F ρ σ H → RP (m ρ) (okT X g F σ Q) (exE X g F W) → t σ H Q
structure SW (X : Cx) (W : Wh) (e : Expr) (m : M Bool) : Prop where
  ex : ∃ t, PW X e t ∧ ∀ g, W.p g → ∀ F ρ σ H Q, Rel X.K g F ρ σ H → RP (m ρ) (okT X g F σ Q) (exE X g F W) → t σ H Q
structure SA (X : Cx) (W : Wh) (es : List Expr) (m : M (List AV)) : Prop where
  ex : ∃ t, PA X es t ∧ ∀ g, W.p g → ∀ F ρ σ H Q, Rel X.K g F ρ σ H → RP (m ρ) (okA X g F σ Q) (exE X g F W) → t σ H Q
inductive Fl where
  | nx | bk | ct | rt (rv : RV)
section
variable (X : Cx) (g : Gx) (F : Hp)
def okS (D : Ends) (f : Fl) (ρ' : VE) : Prop := ∀ σ' F' H', Ext F F' → Rel X.K g F' ρ' σ' H' → match f with
  | .nx => D.nx σ' H'
  | .bk => D.bk σ' H'
  | .ct => D.ct σ' H'
  | .rt rv => ∀ v, RvOk X.K g F' ρ' σ' H' rv v → D.rt v H'
/-- a target: the slots may have turned -/
def okG (Q : L2.St → Hp → Prop) (_ : Unit) (ρ' : VE) : Prop := ∀ σ' F' H', Ext F F' → Rel X.K g F' ρ' σ' H' → Q σ' H'
end
structure SS (X : Cx) (W : Wh) (st : Stmt) (m : M Fl) : Prop where
  ex : ∃ t, PS X st t ∧ ∀ g, W.p g → ∀ F ρ σ H D, Rel X.K g F ρ σ H → RP (m ρ) (okS X g F D) (exE X g F W) → t D σ H
structure SSs (X : Cx) (W : Wh) (st : List Stmt) (m : M Fl) : Prop where
  ex : ∃ t, PSs X st t ∧ ∀ g, W.p g → ∀ F ρ σ H D, Rel X.K g F ρ σ H → RP (m ρ) (okS X g F D) (exE X g F W) → t D σ H

section
variable {X : Cx} {W : Wh} {e : Expr} {g : Gx} {F G : Hp} {σ : L2.St}
theorem exE.ext {er : Er} {ρ : VE} (h : exE X g F W er ρ) (e : Ext F G) : exE X g G W er ρ := fun cls d σ' F' H' a b c => h cls d σ' F' H' (e.trans a) b c
theorem okE.ext {Q : VK} {rv : RV} {ρ : VE} (h : okE X g F σ Q rv ρ) (e : Ext F G) : okE X g G σ Q rv ρ := fun v F' H' a b c => h v F' H' (e.trans a) b c
theorem okF.ext {Q : VK} {rv : AV} {ρ : VE} (h : okF X g F σ Q rv ρ) (e : Ext F G) : okF X g G σ Q rv ρ := fun v F' H' a b c => h v F' H' (e.trans a) b c
theorem okT.ext {Q : Bool → Hp → Prop} {b : Bool} {ρ : VE} (h : okT X g F σ Q b ρ) (e : Ext F G) : okT X g G σ Q b ρ := fun F' H' a b => h F' H' (e.trans a) b
theorem okA.ext {Q : List V → Hp → Prop} {b : List AV} {ρ : VE} (h : okA X g F σ Q b ρ) (e : Ext F G) : okA X g G σ Q b ρ := fun vs F' H' a b c => h vs F' H' (e.trans a) b c
theorem okS.ext {D : Ends} {f : Fl} {ρ : VE} (h : okS X g F D f ρ) (e : Ext F G) : okS X g G D f ρ := fun σ' F' H' a b => h σ' F' H' (e.trans a) b
theorem okG.ext {Q : L2.St → Hp → Prop} {u : Unit} {ρ : VE} (h : okG X g F Q u ρ) (e : Ext F G) : okG X g G Q u ρ := fun σ' F' H' a b => h σ' F' H' (e.trans a) b

/-! ### a value for further use: fresh things are frozen -/
def fz : RV → AV
  | .d d => .d d
  | .fr d => .d d
  | .bor i => .bor i
  | .ow t => .d t.er
def sub (m : M RV) : M AV := do
  let r ← m
  pure (fz r)
theorem okE_of_fz {Q : VK} {rv : RV} {ρ : VE} (h : okF X g F σ Q (fz rv) ρ) : okE X g F σ Q rv ρ := by
  cases rv with
  | d d => exact fun v F' H' a b c => h v F' H' a b c
  | bor i => exact fun v F' H' a b c => h v F' H' a b c
  | fr d =>
    intro v F' H' a b c
    obtain ⟨p, o, rfl, h3, h4, h6, r⟩ := c
    exact h _ _ H' (a.trans (ext_upd r.heldAt.2)) (r.freeze h4 h6) (h3.rep r.heldAt.2)
  | ow t =>
    intro v F' H' a b c
    obtain ⟨R, h1, h2, h3, r⟩ := c
    exact h _ _ H' (a.trans r.extG) (r.freezeC h1 h3) (r.repC h1)
theorem SE.sub {m : M RV} (h : SE X W e m) : SF X W e (sub m) := by
  obtain ⟨t, p, q⟩ := h.ex
  refine ⟨t, p, fun g hp F ρ σ H Q r z => ?_⟩
  refine q g hp F ρ σ H Q r ?_
  unfold P0.sub at z
  rw [RP_bnd] at z
  exact z.imp (fun rv ρ' k => okE_of_fz k) fun _ _ k => k

/-! ### what an operand is -/
def con (a : AV) : M Dv := fun ρ => match a with
  | .d d => .ok d ρ
  | .bor i => match ρ[i]? with
    | some (.mu _ d) => .ok d ρ
    | some (.val d) => .ok d ρ
    | _ => .bad
theorem con_ok {K : PySem.W.Frag} {H : Hp} {ρ : VE} {a : AV} {v : V} {ok : Dv → VE → Prop} {ex : Er → VE → Prop} (r : Rel K g F ρ σ H) (h : AvOk K F σ a v) (z : RP (con a ρ) ok ex) : ∃ d, Top K F H d v ∧ ok d ρ := by
  cases a with
  | d d => exact ⟨d, .inl h, z⟩
  | bor i =>
    unfold con at z
    cases e : ρ[i]? with
    | none => simp only [e] at z; exact z.elim
    | some s =>
      simp only [e] at z
      cases s with
      | no => exact z.elim
      | exn => exact z.elim
      | ot t => exact z.elim
      | val d =>
        obtain ⟨u, h1, h2⟩ := r.val i d e
        have h' : σ[i]? = some (some v) := h
        rw [h'] at h1
        cases h1
        exact ⟨d, .inl h2, z⟩
      | mu b d =>
        obtain ⟨p, o, h1, h2, h3, h4, _⟩ := r.mu i b d e
        have h' : σ[i]? = some (some v) := h
        rw [h'] at h1
        cases h1
        exact ⟨d, .inr ⟨p, o, rfl, h3, h4⟩, z⟩
/-- an operand that may be held by something else from now on: a mutable thing is frozen -/
def ali (a : AV) : M Dv := fun ρ => match a with
  | .d d => .ok d ρ
  | .bor i => match ρ[i]? with
    | some (.mu false d) => .ok d (ρ.set i (.val d))
    | some (.ot t) => .ok t.er (ρ.set i (.val t.er))
    | some (.val d) => .ok d ρ
    | _ => .bad
section
variable {K : PySem.W.Frag} {H : Hp} {ρ : VE} {i : Nat} {d : Dv} {p : Addr} {o : HO} {R : List Addr}
theorem set_self {α : Type} {σ : List α} {i : Nat} {x : α} (h : σ[i]? = some x) : σ.set i x = σ := List.ext_getElem? fun j => by
  by_cases z : i = j
  · subst z; rw [List.getElem?_set_self (lt_of_get h), h]
  · rw [List.getElem?_set_ne z]
/-- one slot is turned, the heap stays -/
theorem Rel.turn (r : Rel K g F ρ σ H) {s' : Sl} {σ' : L2.St} (hσ : ∀ j, i ≠ j → σ'[j]? = σ[j]?) (hn : ∀ e, ρ[i]? ≠ some (Sl.mu true e)) (w : ∃ Rs, Own K g F H (ρ.set i s') σ' Rs) : Rel K g F (ρ.set i s') σ' H where
  ext := r.ext
  f0 := r.f0
  new := r.new
  keep := r.keep
  dom := r.dom
  io := fun j q hq => by
    obtain ⟨h1, e, h2⟩ := r.io j q hq
    have z : i ≠ j := fun z => by subst z; exact hn _ h2
    rw [List.getElem?_set_ne z, hσ j z]
    exact ⟨h1, e, h2⟩
  own := w
/-- a slot gets a frozen value -/
theorem Rel.setVal (r : Rel K g F ρ σ H) {v : V} (hn : ∀ e, ρ[i]? ≠ some (Sl.mu true e)) (hd : Rep K F d v) : Rel K g F (ρ.set i (Sl.val d)) (σ.set i (some v)) H := by
  obtain ⟨Rs, w⟩ := r.own
  exact r.turn (fun j z => List.getElem?_set_ne z) hn ⟨_, w.set i (R' := []) ⟨⟨v, rfl, hd⟩, rfl⟩ List.nodup_nil (fun _ _ _ _ a ha => by cases ha) fun a ha => by cases ha⟩
/-- a slot is forgotten -/
theorem Rel.setNo (r : Rel K g F ρ σ H) {x : Option V} (hn : ∀ e, ρ[i]? ≠ some (Sl.mu true e)) : Rel K g F (ρ.set i Sl.no) (σ.set i x) H := by
  obtain ⟨Rs, w⟩ := r.own
  exact r.turn (fun j z => List.getElem?_set_ne z) hn ⟨_, w.set i (R' := []) rfl List.nodup_nil (fun _ _ _ _ a ha => by cases ha) fun a ha => by cases ha⟩
theorem Rel.dropSl (r : Rel K g F ρ σ H) (hn : ∀ e, ρ[i]? ≠ some (Sl.mu true e)) : Rel K g F (ρ.set i Sl.no) σ H := by
  obtain ⟨Rs, w⟩ := r.own
  exact r.turn (fun j z => rfl) hn ⟨_, w.drop i⟩
/-- a slot holds the exception -/
theorem Rel.setExn (r : Rel K g F ρ σ H) {a : Addr} (he : g.exa = some a) (hn : ∀ e, ρ[i]? ≠ some (Sl.mu true e)) : Rel K g F (ρ.set i Sl.exn) (σ.set i (some (V.ref a))) H := by
  obtain ⟨Rs, w⟩ := r.own
  exact r.turn (fun j z => List.getElem?_set_ne z) hn ⟨_, w.set i (R' := []) ⟨⟨a, he, rfl⟩, rfl⟩ List.nodup_nil (fun _ _ _ _ a ha => by cases ha) fun a ha => by cases ha⟩
/-- a slot gets a fresh thing -/
theorem Rel.setFr (r : Rel K (g.hold (one p o)) F ρ σ H) (hn : ∀ e, ρ[i]? ≠ some (Sl.mu true e)) (h3 : RepO K F d o) (h4 : g.H0 p = none) (h6 : g.held p = none) : Rel K g F (ρ.set i (Sl.mu false d)) (σ.set i (some (V.ref p))) H := by
  obtain ⟨hp, hF⟩ := r.heldAt
  obtain ⟨Rs, w⟩ := r.own
  have w' := w.unhold (one_held h6)
  refine (r.unhold (one_held h6)).turn (fun j z => List.getElem?_set_ne z) hn ⟨_, w'.set i (R' := [p]) ⟨p, o, rfl, hp, h3, rfl, (fun z => by cases z), fun _ => h4⟩ (nodup1 p) (fun j R _ hR a ha hb => ?_) fun a ha => ?_⟩
  · rw [List.mem_singleton.mp ha] at hb
    have k := (plus_is (w.out j R hR p hb).2.1).1
    rw [one_same] at k; cases k
  · rw [List.mem_singleton.mp ha]; exact ⟨hF, h6, .inl h4⟩
/-- .. an owned tree -/
theorem Rel.setOt (r : Rel K (g.hold (cells R H)) F ρ σ H) {t : Ot} {v : V} (hn : ∀ e, ρ[i]? ≠ some (Sl.mu true e)) (h1 : RepT K F H t v R) (h2 : R.Nodup) (h3 : ∀ a ∈ R, g.H0 a = none ∧ g.held a = none) : Rel K g F (ρ.set i (Sl.ot t)) (σ.set i (some v)) H := by
  obtain ⟨Rs, w⟩ := r.own
  have hh : ∀ b u, cells R H b = some u → g.held b = none := fun b u e => (h3 b (cells_mem e)).2
  have w' := w.unhold hh
  refine (r.unhold hh).turn (fun j z => List.getElem?_set_ne z) hn ⟨_, w'.set i (R' := R) ⟨v, rfl, h1, fun a ha => (h3 a ha).1⟩ h2 (fun j S _ hS a ha hb => ?_) fun a ha => ⟨?_, (h3 a ha).2, .inl (h3 a ha).1⟩⟩
  · obtain ⟨u, q⟩ := Option.ne_none_iff_exists'.mp (h1.there a ha)
    have k := (plus_is (w.out j S hS a hb).2.1).1
    rw [cells_at ha q] at k; cases k
  · obtain ⟨u, q⟩ := Option.ne_none_iff_exists'.mp (h1.there a ha)
    exact (w.hel a u (plus_some (cells_at ha q))).2
/-- a slot's own thing is taken out -/
theorem Rel.takeMu (r : Rel K g F ρ σ H) (hi : ρ[i]? = some (Sl.mu false d)) : ∃ p o, σ[i]? = some (some (V.ref p)) ∧ RepO K F d o ∧ g.H0 p = none ∧ g.held p = none ∧ Rel K (g.hold (one p o)) F (ρ.set i Sl.no) σ H := by
  obtain ⟨Rs, w⟩ := r.own
  obtain ⟨x, R, h1, h2, p, o, rfl, h4, h5, rfl, h6, h7⟩ := w.at' hi
  have ho := w.out i _ h2 p List.mem_cons_self
  have r' := r.dropSl (i := i) fun e q => by rw [hi] at q; cases q
  refine ⟨p, o, h1, h5, h7 rfl, ho.2.1, { ext := r'.ext, f0 := r'.f0, new := r'.new, keep := r'.keep, dom := r'.dom, io := r'.io, own := ⟨_, (w.drop i).hold (fun b u e => ?_) fun j R hR a ha => ?_⟩ }⟩
  · by_cases z : b = p
    · subst z
      rw [one_same] at e; cases e
      exact ⟨h4, ho.1⟩
    · rw [one_ne z] at e; cases e
  · rcases get_set hR with ⟨_, y⟩ | ⟨z, hR'⟩
    · subst y; cases ha
    · exact one_ne fun y => w.dis i j _ R z h2 hR' p List.mem_cons_self (by rw [← y]; exact ha)
theorem Rel.takeOt (r : Rel K g F ρ σ H) {t : Ot} (hi : ρ[i]? = some (Sl.ot t)) : ∃ v R, σ[i]? = some (some v) ∧ RepT K F H t v R ∧ R.Nodup ∧ (∀ a ∈ R, g.H0 a = none ∧ g.held a = none) ∧ Rel K (g.hold (cells R H)) F (ρ.set i Sl.no) σ H := by
  obtain ⟨Rs, w⟩ := r.own
  obtain ⟨x, R, h1, h2, v, rfl, h4, h5⟩ := w.at' hi
  have r' := r.dropSl (i := i) fun e q => by rw [hi] at q; cases q
  refine ⟨v, R, h1, h4, w.nd i R h2, fun a ha => ⟨h5 a ha, (w.out i R h2 a ha).2.1⟩, { ext := r'.ext, f0 := r'.f0, new := r'.new, keep := r'.keep, dom := r'.dom, io := r'.io, own := ⟨_, (w.drop i).hold (fun b u e => ?_) fun j S hS a ha => ?_⟩ }⟩
  · have m := cells_mem e
    rw [cells_in m] at e
    exact ⟨e, (w.out i R h2 b m).1⟩
  · rcases get_set hS with ⟨_, y⟩ | ⟨z, hS'⟩
    · subst y; cases ha
    · exact cells_out fun y => w.dis i j R S z h2 hS' a y ha
/-- a mutable thing of a slot is changed -/
theorem Rel.write (r : Rel K g F ρ σ H) {b : Bool} {d' : Dv} {o' : HO} (hi : ρ[i]? = some (Sl.mu b d)) (hs : σ[i]? = some (some (V.ref p))) (ho : RepO K F d' o') : Rel K g F (ρ.set i (Sl.mu b d')) σ (upd H p o') := by
  obtain ⟨Rs, w⟩ := r.own
  obtain ⟨x, R, h1, h2, q, o, rfl, h4, h5, rfl, h6, h7⟩ := w.at' hi
  rw [hs] at h1
  obtain rfl := V.ref.inj (Option.some.inj (Option.some.inj h1))
  have hout := w.out i _ h2 p List.mem_cons_self
  have hd : ∀ (j : Nat) (R : List Addr), (Rs.set i [])[j]? = some R → ∀ a ∈ R, a ≠ p := fun j R hR a ha z => by
    rcases get_set hR with ⟨_, y⟩ | ⟨y, hR'⟩
    · subst y; cases ha
    · exact w.dis i j _ R y h2 hR' p List.mem_cons_self (by rw [← z]; exact ha)
  have w1 := (w.drop i).frame (H' := upd H p o') (Ext.refl F) (fun j R hR a ha => upd_ne (hd j R hR a ha)) (fun j R hR a ha => ((w.drop i).out j R hR a ha).1) fun c u e => by
    obtain ⟨a1, a2⟩ := w.hel c u e
    exact ⟨by rw [upd_ne (fun z => by rw [z, hout.2.1] at e; cases e)]; exact a1, a2⟩
  have w2 := w1.set i (s' := .mu b d') (x' := some (V.ref p)) (R' := [p]) ⟨p, o', rfl, upd_same, ho, rfl, h6, h7⟩ (nodup1 p) (fun j R z hR a ha hb => hd j R hR a hb (List.mem_singleton.mp ha)) (fun a ha => by rw [List.mem_singleton.mp ha]; exact hout)
  rw [List.set_set, List.set_set, set_self hs] at w2
  refine { ext := fun c u e => by rw [upd_ne (ne_of_none e hout.1)]; exact r.ext c u e, f0 := r.f0, new := r.new, keep := fun c u e hc => ?_, dom := fun c e => ?_, io := fun j c hc => ?_, own := ⟨_, w2⟩ }
  · by_cases z : c = p
    · subst z
      cases b with
      | false => rw [h7 rfl] at e; cases e
      | true => exact absurd (h6 rfl) (hc i)
    · rw [upd_ne z]; exact r.keep c u e hc
  · by_cases z : c = p
    · rw [z, upd_same]; exact Option.some_ne_none _
    · rw [upd_ne z]; exact r.dom c e
  · obtain ⟨k1, e, k2⟩ := r.io j c hc
    by_cases z : i = j
    · subst z
      rw [hi] at k2; cases k2
      exact ⟨k1, d', List.getElem?_set_self (lt_of_get hi)⟩
    · exact ⟨k1, e, by rw [List.getElem?_set_ne z]; exact k2⟩
/-- a slot's own thing is frozen -/
theorem Rel.freezeSl (r : Rel K g F ρ σ H) (hi : ρ[i]? = some (Sl.mu false d)) : ∃ p F', σ[i]? = some (some (V.ref p)) ∧ Ext F F' ∧ Rel K g F' (ρ.set i (Sl.val d)) σ H ∧ Rep K F' d (.ref p) := by
  obtain ⟨p, o, h1, h2, h3, h4, r1⟩ := r.takeMu hi
  have hF := r1.heldAt.2
  have r2 := r1.freeze h3 h4
  have r3 := r2.setVal (i := i) (v := .ref p) (d := d) (fun e q => by rw [List.getElem?_set_self (lt_of_get hi)] at q; cases q) (h2.rep hF)
  rw [List.set_set, set_self h1] at r3
  exact ⟨p, _, h1, ext_upd hF, r3, h2.rep hF⟩
theorem Rel.freezeOt (r : Rel K g F ρ σ H) {t : Ot} (hi : ρ[i]? = some (Sl.ot t)) : ∃ v F', σ[i]? = some (some v) ∧ Ext F F' ∧ Rel K g F' (ρ.set i (Sl.val t.er)) σ H ∧ Rep K F' t.er v := by
  obtain ⟨v, R, h1, h2, h3, h4, r1⟩ := r.takeOt hi
  have r2 := r1.freezeC h2 h4
  have r3 := r2.setVal (i := i) (v := v) (d := t.er) (fun e q => by rw [List.getElem?_set_self (lt_of_get hi)] at q; cases q) (r1.repC h2)
  rw [List.set_set, set_self h1] at r3
  exact ⟨v, _, h1, r1.extG, r3, r1.repC h2⟩
theorem ali_ok {a : AV} {v : V} {ok : Dv → VE → Prop} {ex : Er → VE → Prop} (r : Rel K g F ρ σ H) (h : AvOk K F σ a v) (z : RP (ali a ρ) ok ex) : ∃ d F' ρ', Ext F F' ∧ Rel K g F' ρ' σ H ∧ Rep K F' d v ∧ ok d ρ' := by
  cases a with
  | d d => exact ⟨d, F, ρ, Ext.refl F, r, h, z⟩
  | bor i =>
    unfold ali at z
    cases e : ρ[i]? with
    | none => simp only [e] at z; exact z.elim
    | some s =>
      simp only [e] at z
      cases s with
      | no => exact z.elim
      | exn => exact z.elim
      | ot t =>
        obtain ⟨u, F', h1, h2, h3, h4⟩ := r.freezeOt e
        have h' : σ[i]? = some (some v) := h
        rw [h'] at h1
        cases h1
        exact ⟨t.er, F', _, h2, h3, h4, z⟩
      | val d =>
        obtain ⟨u, h1, h2⟩ := r.val i d e
        have h' : σ[i]? = some (some v) := h
        rw [h'] at h1
        cases h1
        exact ⟨d, F, ρ, Ext.refl F, r, h2, z⟩
      | mu b d =>
        cases b with
        | true => exact z.elim
        | false =>
          obtain ⟨p, F', h1, h2, h3, h4⟩ := r.freezeSl e
          have h' : σ[i]? = some (some v) := h
          rw [h'] at h1
          cases h1
          exact ⟨d, F', _, h2, h3, h4, z⟩
end
end
end P0
end
section
set_option Elab.async false
set_option linter.all false
set_option maxRecDepth 100000
set_option maxHeartbeats 4000000
/-! P0, defs: what a def does to its arguments; calls. -/
namespace P0
open PySem PySem.Spec L2
open PyProof.Rows hiding St

/-- a def that keeps a promise wherever no guard runs (repr asks who runs) -/
structure FnG (P : Program) (w : World) (K : PySem.W.Frag) (mg : Str → Option Value) (base : Heap) (k : Nat) (f : Addr) (fd : FuncData) (ps : List Str) (sp : Sp) : Prop where
  len : ∀ vs H Q E, sp vs H Q E → vs.length = ps.length
  run : ∀ (A : Around) (outer : List Env) (s : Shared) (H : Hp) (args : Args) (us : List Value) (vs : List V) (Q : VK) (E : XK), A.guards = some [] → Room k A → Env0 P w K mg base A outer s H →
    BindsTo s fd args (ps.zip us) → Vals vs us → sp vs H Q E → codeAny (model P w) A (.call (.ref f) args) (CR (L2.CX P w) outer P w H s Q E) s
section
variable {P : Program} {w : World} {K : PySem.W.Frag} {mg : Str → Option Value} {base : Heap}
/-- by its body -/
theorem fnG_of {x qual : Str} {st : Stmt} {f : Addr} {fd : FuncData} {N ps : List Str} {k : Nat} {sp : Sp} (Fd : Fun K x qual st f fd) (S : FnScope N ps (defScope st)) (len : ∀ vs H Q E, sp vs H Q E → vs.length = ps.length)
    (hbody : ∀ (cdv : Value) (A : Around) (outer : List Env) (s : Shared) (H : Hp) (vs : List V) (Q : VK) (E : XK), A.guards = some [] → Room k (A.deeper (envOfC qual (defScope st) s.heap.objs.size f cdv)) → sp vs H Q E →
      ∃ t, PSs (cxOf (L2.CX P w) P w K mg base N qual (defScope st) f cdv A outer s H E) (defBody st) t ∧ t { nx := fun _ G => Q .non G, rt := Q } (L2.start N vs) H) : FnG P w K mg base (k + 1) f fd ps sp := by
  obtain ⟨oc, od, kV, doc, pm, an, cdv, ct, osl, rfl, lk, hcd⟩ := Fd.ex
  constructor
  · exact len
  intro A outer s H args us vs Q E hgd room e0 hbind rel hsp
  have KX : K.In s.heap := e0.mod.kin.keeps fun b o e => (e0.bs b o e).1
  have kinds : ∀ y ∈ ps.zip us, (defScope st).names.lookup y.1 = some .local ∨
      ((defScope st).names.lookup y.1 = some .cell ∧ ((cellsFrom (s.heap.objs.size + 1) (defScope st).names []).lookup y.1).isSome = true) := by
    rintro ⟨n, v⟩ hy
    cases S.par n (List.of_mem_zip hy).1 with
    | inl q => exact Or.inl q
    | inr q => exact Or.inr ⟨q, PySem.W.cellsFrom_some _ _ _ (Or.inl q)⟩
  refine codeAny_call_function room.depth (KX _ _ lk) rfl S.co S.gen rfl (PySem.W.codeRec_of KX hcd) (hbind _ _ _ _ ?_)
  refine wpAny_newFunctionEnv_cells S.kind kinds fun env he s1 x => ?_
  subst he
  refine ⟨(e0.mod.nolimit.keeps fun b o e => (e0.bs b o e).1).keeps x.toInCall.keep, codeAny_func ?_⟩
  obtain ⟨t, ht, hq⟩ := hbody cdv A outer s H vs Q E hgd (room.deeper _) hsp
  have I := inv_start (CX := L2.CX P w) (E := E) (qual := qual) (f := f) (cd := cdv) S room.hd e0 (len _ _ _ _ hsp) rel x
  refine wpAny_mono (ht.run [] s1 (L2.start N vs) H _ I hq) (fun fl s' hs => ?_) fun e s' hs => hs
  cases fl with
  | brk => obtain ⟨_, _, _, z⟩ := hs; exact False.elim z
  | cont => obtain ⟨_, _, _, z⟩ := hs; exact False.elim z
  | next =>
    obtain ⟨σ', H', J, z⟩ := hs
    exact ⟨V.non, H', J.os, J.bare, J.base, J.hok, rfl, z⟩
  | ret u =>
    obtain ⟨v, σ', H', J, rv, z⟩ := hs
    exact ⟨v, H', J.os, J.bare, J.base, J.hok, rv, z⟩
end

section
variable {X : Cx} {k : Nat} {f : Addr} {fd : FuncData} {ps : List Str} {sp : Sp} {E : L2.St → XK} {x : Str} {p pos : Pos} {e : Expr} {es : List Expr} {t : TA}
theorem run_fnG {pins : List (Addr × Obj)} {σ : L2.St} {H : Hp} {s : Shared} {Q : VK} {us : List Value} {vs : List V} (Fk : FnG X.prog X.w X.K X.mg X.base k f fd ps sp) (hgd : X.A.guards = some []) (hr : Room k X.A) (hb : Binds X.K fd ps [])
    (hx : PassesAt (L2.CX X.prog X.w) X σ (E σ)) (I : Inv X pins σ H s) (r : Vals vs us) (h : sp vs H Q (E σ)) : wpAny (model X.prog X.w) X.A (call (.ref f) us) (EP X pins σ Q) X.xe s := by
  have b := hb s us I.kIn (by rw [List.append_nil, ← r.length]; exact Fk.len _ _ _ _ h)
  rw [List.append_nil] at b
  have c := Fk.run X.A X.stack s H ⟨us, []⟩ us vs Q (E σ) hgd hr I.env0 b r h
  refine wpAny_call (codeAny_mono c fun res s' hq => ?_)
  rcases res with e | fl
  · exact hx pins H s e s' I hq
  · cases fl
    case ret u => exact I.after hq
    all_goals exact hq.elim
theorem pe_callG (Fk : FnG X.prog X.w X.K X.mg X.base k f fd ps sp) (hgd : X.A.guards = some []) (hr : Room k X.A) (hg : Gl X x) (hm : X.mg x = some (.ref f)) (hk : PySem.W.keepIn X.K (.ref f) = true) (hb : Binds X.K fd ps [])
    (hx : ∀ σ, PassesAt (L2.CX X.prog X.w) X σ (E σ)) (ha : PA X (e :: es) t) (hdb : (x == ("__debug__" : Str)) = false := by decide)
    (he : starEach (e :: es) X.env = (false, eval e X.env) :: starEach es X.env := by rfl) (hpl : (backTo pos (starEach es X.env)).any (·.1) = false := by rfl) : PE X (.Call (.Name x p) (e :: es) [] pos) (tCallS sp E t) := by
  constructor
  intro pins s σ H Q I h
  refine wpAny_Call_Name_kw (ld_glob I hg hm (PySem.W.callWith_K (h₀ := X.base) I.ok.mod.kin hk (thn (ha.run pos pins s σ H _ I h) ?_) he hpl) hdb)
  rintro us s1 ⟨vs, H1, I1, r, q⟩
  exact ⟨I1.kIn, run_fnG Fk hgd hr hb (hx σ) I1 r q⟩
end

/-- what a call leaves: F and H ahead of it, F' and H' behind; io: the in-out thing -/
structure CP (io : Option Addr) (F H F' H' : Hp) : Prop where
  e1 : Ext F F'
  e2 : Ext F' H'
  new : ∀ b, F' b ≠ none → F b ≠ none ∨ H b = none
  keep : ∀ b o, H b = some o → io ≠ some b → H' b = some o
  dom : ∀ b, H b ≠ none → H' b ≠ none
def RvC (K : PySem.W.Frag) (H F' H' : Hp) (io : Option Addr) : RV → V → Prop
  | .d d, v => Rep K F' d v
  | .fr d, v => ∃ p o, v = .ref p ∧ F' p = none ∧ H' p = some o ∧ RepO K F' d o ∧ H p = none
  | .ow t, v => ∃ R, RepT K F' H' t v R ∧ R.Nodup ∧ ∀ a ∈ R, F' a = none ∧ H a = none
  | .bor _, _ => False
/-- the promise of a def without in-out things, by what it does -/
def spF (K : PySem.W.Frag) (mg : Str → Option Value) (φ : List Sl → R RV) (n : Nat) : Sp := fun vs H Q E => ∃ F ds, ds.length = n ∧ Ext F H ∧ Reps K F ds vs ∧
  RP (φ (ds.map Sl.val)) (fun rv _ => ∀ v F' H', CP none F H F' H' → RvC K H F' H' none rv v → Q v H') (fun er _ => ∀ cls d F' H', CP none F H F' H' → ErOk K mg F' er cls d → E cls d H')
/-- .. whose first argument is one -/
def spI (K : PySem.W.Frag) (mg : Str → Option Value) (φ : List Sl → R RV) (n : Nat) : Sp := fun vs H Q E => ∃ F d0 p o ds ws, vs = .ref p :: ws ∧ ds.length = n ∧ Ext F H ∧ F p = none ∧ H p = some o ∧ RepO K F d0 o ∧ Reps K F ds ws ∧
  RP (φ (Sl.mu true d0 :: ds.map Sl.val)) (fun rv ρ' => ∀ v F' H' d' o', CP (some p) F H F' H' → ρ'[0]? = some (Sl.mu true d') → F' p = none → H' p = some o' → RepO K F' d' o' → RvC K H F' H' (some p) rv v → Q v H')
    (fun er ρ' => ∀ cls d F' H' d' o', CP (some p) F H F' H' → ρ'[0]? = some (Sl.mu true d') → F' p = none → H' p = some o' → RepO K F' d' o' → ErOk K mg F' er cls d → E cls d H')
theorem spF_len {K : PySem.W.Frag} {mg : Str → Option Value} {φ : List Sl → R RV} {n : Nat} {ps : List Str} (hn : ps.length = n) : ∀ vs H Q E, spF K mg φ n vs H Q E → vs.length = ps.length := by
  rintro vs H Q E ⟨F, ds, h1, _, h2, _⟩
  rw [← h2.length, h1, hn]
theorem spI_len {K : PySem.W.Frag} {mg : Str → Option Value} {φ : List Sl → R RV} {n : Nat} {ps : List Str} (hn : ps.length = n + 1) : ∀ vs H Q E, spI K mg φ n vs H Q E → vs.length = ps.length := by
  rintro vs H Q E ⟨F, d0, p, o, ds, ws, rfl, h1, _, _, _, _, h2, _⟩
  rw [List.length_cons, ← h2.length, h1, hn]

/-! ### the call, seen by the caller -/
section
variable {K : PySem.W.Frag} {g : Gx} {F H F' H' : Hp} {ρ : VE} {σ : L2.St}
/-- the slots own nothing but what stood in H -/
def Old (K : PySem.W.Frag) (g : Gx) (F' H' : Hp) (ρ : VE) (σ : L2.St) (H : Hp) : Prop := ∃ Rs, Own K g F' H' ρ σ Rs ∧ ∀ (i : Nat) (R : List Addr), Rs[i]? = some R → ∀ a ∈ R, H a ≠ none
theorem Rel.calledO (r : Rel K g F ρ σ H) (c : CP none F H F' H') : Old K g F' H' ρ σ H := by
  obtain ⟨Rs, w⟩ := r.own
  have nF : ∀ b, H b ≠ none → F b = none → F' b = none := fun b h1 h2 => by
    cases q : F' b with
    | none => rfl
    | some u =>
      rcases c.new b (by rw [q]; exact Option.some_ne_none u) with z | z
      · exact absurd h2 z
      · exact absurd z h1
  refine ⟨Rs, w.frame c.e1 (fun i R hR a ha => ?_) (fun i R hR a ha => nF a (w.there hR ha) (w.out i R hR a ha).1) fun b o e => ?_, fun i R hR a ha => w.there hR ha⟩
  · obtain ⟨u, q⟩ := Option.ne_none_iff_exists'.mp (w.there hR ha)
    rw [q]; exact c.keep a u q (fun z => by cases z)
  · obtain ⟨h1, h2⟩ := w.hel b o e
    exact ⟨c.keep b o h1 (fun z => by cases z), nF b (by rw [h1]; exact Option.some_ne_none o) h2⟩
theorem Rel.called (r : Rel K g F ρ σ H) (c : CP none F H F' H') : Rel K g F' ρ σ H' where
  ext := c.e2
  f0 := r.f0.trans c.e1
  new := fun b h => by
    rcases c.new b h with h | h
    · exact r.new b h
    · exact .inr (r.freeH0 h)
  keep := fun b o h n => c.keep b o (r.keep b o h n) (fun z => by cases z)
  dom := fun b h => c.dom b (r.dom b h)
  io := r.io
  own := let ⟨Rs, w, _⟩ := r.calledO c; ⟨Rs, w⟩
theorem Rel.calledIO (r : Rel K g F ρ σ H) {i : Nat} {b : Bool} {d d' : Dv} {p : Addr} {o' : HO} (hi : ρ[i]? = some (Sl.mu b d)) (hs : σ[i]? = some (some (V.ref p))) (c : CP (some p) F H F' H') (h1 : F' p = none) (h2 : H' p = some o') (h3 : RepO K F' d' o') :
    Rel K g F' (ρ.set i (Sl.mu b d')) σ H' ∧ Old K g F' H' (ρ.set i (Sl.mu b d')) σ H := by
  obtain ⟨Rs, w⟩ := r.own
  obtain ⟨x, R, e1, e2, q, o, rfl, e4, e5, rfl, e6, e7⟩ := w.at' hi
  rw [hs] at e1
  obtain rfl := V.ref.inj (Option.some.inj (Option.some.inj e1))
  have hout := w.out i _ e2 p List.mem_cons_self
  have nF : ∀ b, H b ≠ none → F b = none → F' b = none := fun b h1 h2 => by
    cases q : F' b with
    | none => rfl
    | some u =>
      rcases c.new b (by rw [q]; exact Option.some_ne_none u) with z | z
      · exact absurd h2 z
      · exact absurd z h1
  have hd : ∀ (j : Nat) (R : List Addr), (Rs.set i [])[j]? = some R → ∀ a ∈ R, a ≠ p := fun j R hR a ha z => by
    rcases get_set hR with ⟨_, y⟩ | ⟨y, hR'⟩
    · subst y; cases ha
    · exact w.dis i j _ R y e2 hR' p List.mem_cons_self (by rw [← z]; exact ha)
  have w0 := w.drop i
  have w1 := w0.frame (H' := H') c.e1 (fun j R hR a ha => by
    obtain ⟨u, q⟩ := Option.ne_none_iff_exists'.mp (w0.there hR ha)
    rw [q]; exact c.keep a u q (fun z => hd j R hR a ha (Option.some.inj z).symm)) (fun j R hR a ha => nF a (w0.there hR ha) (w0.out j R hR a ha).1) fun c' u e => by
    obtain ⟨a1, a2⟩ := w.hel c' u e
    exact ⟨c.keep c' u a1 (fun z => by cases z; rw [hout.2.1] at e; cases e), nF c' (by rw [a1]; exact Option.some_ne_none u) a2⟩
  have w2 := w1.set i (s' := .mu b d') (x' := some (V.ref p)) (R' := [p]) ⟨p, o', rfl, h2, h3, rfl, e6, e7⟩ (nodup1 p) (fun j R z hR a ha hb => hd j R hR a hb (List.mem_singleton.mp ha)) (fun a ha => by rw [List.mem_singleton.mp ha]; exact ⟨h1, hout.2⟩)
  rw [List.set_set, List.set_set, set_self hs] at w2
  refine ⟨{ ext := c.e2, f0 := r.f0.trans c.e1, new := fun x h => ?_, keep := fun x o h n => ?_, dom := fun x h => c.dom x (r.dom x h), io := fun j q hq => ?_, own := ⟨_, w2⟩ }, _, w2, fun j R hR a ha => ?_⟩
  · rcases c.new x h with h | h
    · exact r.new x h
    · exact .inr (r.freeH0 h)
  · refine c.keep x o (r.keep x o h n) fun z => ?_
    cases z
    cases b with
    | false => rw [e7 rfl] at h; cases h
    | true => exact n i (e6 rfl)
  · obtain ⟨k1, e, k2⟩ := r.io j q hq
    by_cases z : i = j
    · subst z
      rw [hi] at k2; cases k2
      exact ⟨k1, d', List.getElem?_set_self (lt_of_get hi)⟩
    · exact ⟨k1, e, by rw [List.getElem?_set_ne z]; exact k2⟩
  · rcases get_set hR with ⟨_, y⟩ | ⟨y, hR'⟩
    · subst y
      rw [List.mem_singleton.mp ha, e4]; exact Option.some_ne_none _
    · exact w.there hR' ha
theorem Rel.calledI (r : Rel K g F ρ σ H) {i : Nat} {b : Bool} {d d' : Dv} {p : Addr} {o' : HO} (hi : ρ[i]? = some (Sl.mu b d)) (hs : σ[i]? = some (some (V.ref p))) (c : CP (some p) F H F' H') (h1 : F' p = none) (h2 : H' p = some o') (h3 : RepO K F' d' o') :
    Rel K g F' (ρ.set i (Sl.mu b d')) σ H' := (r.calledIO hi hs c h1 h2 h3).1
/-- what a call hands back, in the caller's hands -/
theorem RvC.ok {ρ' : VE} {io : Option Addr} {rv : RV} {v : V} (r : Rel K g F ρ σ H) (r' : Rel K g F' ρ' σ H') (w : Old K g F' H' ρ' σ H) (h : RvC K H F' H' io rv v) : RvOk K g F' ρ' σ H' rv v := by
  obtain ⟨Rs, w, ol⟩ := w
  cases rv with
  | d d => exact h
  | bor i => exact h.elim
  | fr d =>
    obtain ⟨q, o, h1, h2, h3, h4, h5⟩ := h
    refine ⟨q, o, h1, h4, r.freeH0 h5, r.noHeld h5, { ext := r'.ext, f0 := r'.f0, new := r'.new, keep := r'.keep, dom := r'.dom, io := r'.io, own := ⟨Rs, w.hold (fun b u e => ?_) fun i R hR a ha => one_ne fun z => ol i R hR a ha (by rw [z]; exact h5)⟩ }⟩
    by_cases z : b = q
    · subst z
      rw [one_same] at e; cases e
      exact ⟨h3, h2⟩
    · rw [one_ne z] at e; cases e
  | ow t =>
    obtain ⟨R, h1, h2, h3⟩ := h
    refine ⟨R, h1, h2, fun a ha => ⟨r.freeH0 (h3 a ha).2, r.noHeld (h3 a ha).2⟩, { ext := r'.ext, f0 := r'.f0, new := r'.new, keep := r'.keep, dom := r'.dom, io := r'.io, own := ⟨Rs, w.hold (fun b u e => ?_) fun i S hS a ha => cells_out fun z => ol i S hS a ha (h3 a z).2⟩ }⟩
    have m := cells_mem e
    rw [cells_in m] at e
    exact ⟨e, (h3 b m).1⟩
end

/-! ### the promise, from the body -/
/-- what the body does, as a def: the value that is handed back -/
def runB (n : Nat) (b : M Fl) (sl : List Sl) : R RV := match b (sl ++ List.replicate n Sl.no) with
  | .ok (.rt (.bor i)) ρ => match ρ[i]? with
    | some (.mu false d) => .ok (.fr d) (ρ.set i .no)
    | some (.ot t) => .ok (.ow t) (ρ.set i .no)
    | some (.val d) => .ok (.d d) ρ
    | _ => .bad
  | .ok (.rt rv) ρ => .ok rv ρ
  | .ok .nx ρ => .ok (.d .non) ρ
  | .ok .bk _ => .bad
  | .ok .ct _ => .bad
  | .exc e ρ => .exc e ρ
  | .bad => .bad
theorem RP_runB {n : Nat} {b : M Fl} {sl : List Sl} {ok : RV → VE → Prop} {ex : Er → VE → Prop} (h : RP (runB n b sl) ok ex) :
    RP (b (sl ++ List.replicate n Sl.no)) (fun f ρ => match f with
      | .nx => ok (.d .non) ρ
      | .bk => False
      | .ct => False
      | .rt (.bor i) => (∃ d, ρ[i]? = some (Sl.mu false d) ∧ ok (.fr d) (ρ.set i Sl.no)) ∨ (∃ d, ρ[i]? = some (Sl.val d) ∧ ok (.d d) ρ) ∨ ∃ t, ρ[i]? = some (Sl.ot t) ∧ ok (.ow t) (ρ.set i Sl.no)
      | .rt rv => ok rv ρ) ex := by
  unfold runB at h
  cases hb : b (sl ++ List.replicate n Sl.no) with
  | bad => rw [hb] at h; exact h
  | exc e ρ => rw [hb] at h; exact h
  | ok f ρ =>
    rw [hb] at h
    cases f with
    | nx => exact h
    | bk => exact h
    | ct => exact h
    | rt rv =>
      cases rv with
      | d d => exact h
      | fr d => exact h
      | ow t => exact h
      | bor i =>
        simp only at h
        cases e : ρ[i]? with
        | none => simp only [e] at h; exact h.elim
        | some s =>
          simp only [e] at h
          cases s with
          | no => exact h.elim
          | exn => exact h.elim
          | ot t => exact .inr (.inr ⟨t, e, h⟩)
          | val d => exact .inr (.inl ⟨d, e, h⟩)
          | mu c d =>
            cases c with
            | true => exact h.elim
            | false => exact .inl ⟨d, e, h⟩
theorem start_vals {N : List Str} {vs : List V} {i : Nat} {v : V} (h : vs[i]? = some v) : (L2.start N vs)[i]? = some (some v) := by
  unfold L2.start
  have hl : i < vs.length := by
    rcases Nat.lt_or_ge i vs.length with x | x
    · exact x
    · rw [List.getElem?_eq_none x] at h; cases h
  rw [List.getElem?_append_left (by rw [List.length_map]; exact hl), List.getElem?_map, h]; rfl
theorem sls_at {sl : List Sl} {n i : Nat} {s : Sl} (h : (sl ++ List.replicate n Sl.no)[i]? = some s) (hs : s ≠ .no) : sl[i]? = some s := by
  rcases Nat.lt_or_ge i sl.length with x | x
  · rw [List.getElem?_append_left x] at h; exact h
  · rw [List.getElem?_append_right x, List.getElem?_replicate] at h
    split at h
    · cases h; exact absurd rfl hs
    · cases h
section
variable {K : PySem.W.Frag} {F H : Hp} {ds : List Dv} {ws vs : List V} {N : List Str} {n : Nat}
theorem rel_start (he : Ext F H) (h : Reps K F ds vs) (hn : ds.length + n = N.length) : Rel K ⟨H, F, [], fun _ => none, none⟩ F (ds.map Sl.val ++ List.replicate n Sl.no) (L2.start N vs) H where
  ext := he
  f0 := Ext.refl F
  new := fun b h => .inl h
  keep := fun b o h _ => h
  dom := fun b h => h
  io := fun i p h => by cases h
  own := ⟨List.replicate N.length [], {
    len := by
      unfold L2.start
      rw [List.length_append, List.length_append, List.length_map, List.length_map, List.length_replicate, List.length_replicate, h.length]
      have := h.length
      omega
    lenR := by rw [List.length_append, List.length_map, List.length_replicate, List.length_replicate]; exact hn
    ok := fun i s x R h1 h2 h3 => by
      obtain rfl : R = [] := by rw [List.getElem?_replicate] at h3; split at h3 <;> cases h3; rfl
      by_cases hs : s = .no
      · subst hs; rfl
      · have e := sls_at h1 hs
        rw [List.getElem?_map] at e
        cases q : ds[i]? with
        | none => rw [q] at e; cases e
        | some d' =>
          rw [q] at e; cases e
          obtain ⟨v, k1, k2⟩ := h.get q
          rw [start_vals k1] at h2
          cases h2
          exact ⟨⟨v, rfl, k2⟩, rfl⟩
    nd := fun i R hR => by rw [List.getElem?_replicate] at hR; split at hR <;> cases hR; exact List.nodup_nil
    dis := fun i j R S _ hR _ a ha => by rw [List.getElem?_replicate] at hR; split at hR <;> cases hR; cases ha
    out := fun i R hR a ha => by rw [List.getElem?_replicate] at hR; split at hR <;> cases hR; cases ha
    hel := fun b o e => by cases e }⟩
theorem rel_startI {d0 : Dv} {p : Addr} {o : HO} (he : Ext F H) (h1 : F p = none) (h2 : H p = some o) (h3 : RepO K F d0 o) (h : Reps K F ds ws) (hn : ds.length + 1 + n = N.length) :
    Rel K ⟨H, F, [(0, p)], fun _ => none, none⟩ F (Sl.mu true d0 :: ds.map Sl.val ++ List.replicate n Sl.no) (L2.start N (.ref p :: ws)) H where
  ext := he
  f0 := Ext.refl F
  new := fun b h => .inl h
  keep := fun b o h _ => h
  dom := fun b h => h
  io := fun i q hq => by
    cases List.mem_singleton.mp hq
    exact ⟨start_vals rfl, d0, rfl⟩
  own := ⟨[p] :: List.replicate (N.length - 1) [], by
    have rest : ∀ (i : Nat) (R : List Addr), ([p] :: List.replicate (N.length - 1) ([] : List Addr))[i]? = some R → (i = 0 ∧ R = [p]) ∨ (i ≠ 0 ∧ R = []) := fun i R hR => by
      cases i with
      | zero => exact .inl ⟨rfl, (Option.some.inj hR).symm⟩
      | succ i =>
        rw [List.getElem?_cons_succ, List.getElem?_replicate] at hR
        split at hR
        · exact .inr ⟨Nat.succ_ne_zero i, (Option.some.inj hR).symm⟩
        · cases hR
    refine { len := ?_, lenR := ?_, ok := fun i s x R k1 k2 k3 => ?_, nd := fun i R hR => ?_, dis := fun i j R S hij hR hS a ha hb => ?_, out := fun i R hR a ha => ?_, hel := fun b o e => (by cases e) }
    · unfold L2.start
      simp only [List.length_append, List.length_map, List.length_replicate, List.length_cons, h.length]
      have := h.length
      omega
    · simp only [List.length_append, List.length_map, List.length_replicate, List.length_cons]
      omega
    · rcases rest i R k3 with ⟨rfl, rfl⟩ | ⟨hi, rfl⟩
      · cases k1
        rw [start_vals (v := .ref p) rfl] at k2
        cases k2
        exact ⟨p, o, rfl, h2, h3, rfl, fun _ => List.mem_singleton.mpr rfl, fun z => by cases z⟩
      · by_cases hs : s = .no
        · subst hs; rfl
        · have e := sls_at k1 hs
          cases i with
          | zero => exact absurd rfl hi
          | succ i =>
            rw [List.getElem?_cons_succ, List.getElem?_map] at e
            cases q : ds[i]? with
            | none => rw [q] at e; cases e
            | some d' =>
              rw [q] at e; cases e
              obtain ⟨v, a1, a2⟩ := h.get q
              rw [start_vals (v := v) (by rw [List.getElem?_cons_succ]; exact a1)] at k2
              cases k2
              exact ⟨⟨v, rfl, a2⟩, rfl⟩
    · rcases rest i R hR with ⟨_, rfl⟩ | ⟨_, rfl⟩
      · exact nodup1 p
      · exact List.nodup_nil
    · rcases rest i R hR with ⟨rfl, rfl⟩ | ⟨_, rfl⟩
      · rcases rest j S hS with ⟨rfl, _⟩ | ⟨_, rfl⟩
        · exact hij rfl
        · cases hb
      · cases ha
    · rcases rest i R hR with ⟨rfl, rfl⟩ | ⟨_, rfl⟩
      · rw [List.mem_singleton.mp ha]
        exact ⟨h1, rfl, .inr (List.mem_singleton.mpr rfl)⟩
      · cases ha⟩
end
section
variable {P : Program} {w : World} {K : PySem.W.Frag} {mg : Str → Option Value} {base : Heap}
theorem Rel.cp {g : Gx} {F : Hp} {ρ : VE} {σ : L2.St} {H : Hp} (r : Rel K g F ρ σ H) (hg : g.ios = []) : CP none g.F0 g.H0 F H :=
  ⟨r.f0, r.ext, r.new, fun b o h _ => r.keep b o h fun i z => (by rw [hg] at z; cases z), r.dom⟩
theorem Rel.cpI {g : Gx} {F : Hp} {ρ : VE} {σ : L2.St} {H : Hp} {p : Addr} (r : Rel K g F ρ σ H) (hg : g.ios = [(0, p)]) : CP (some p) g.F0 g.H0 F H :=
  ⟨r.f0, r.ext, r.new, fun b o h n => r.keep b o h fun i z => (by
    rw [hg] at z
    cases List.mem_singleton.mp z
    exact n rfl), r.dom⟩
/-- a def, by what its body does -/
theorem fnF {x qual : Str} {st : Stmt} {f : Addr} {fd : FuncData} {N ps : List Str} {k n np : Nat} {b : M Fl} (Fd : Fun K x qual st f fd) (S : FnScope N ps (defScope st)) (hp : ps.length = np) (hn : np + n = N.length)
    (hb : ∀ (cdv : Value) (A : Around) (outer : List Env) (s : Shared) (H : Hp) (E : XK), A.guards = some [] → Room k (A.deeper (envOfC qual (defScope st) s.heap.objs.size f cdv)) →
      SSs (cxOf (L2.CX P w) P w K mg base N qual (defScope st) f cdv A outer s H E) ⟨fun cls d _ G => E cls d G, fun _ => True⟩ (defBody st) b) : FnG P w K mg base (k + 1) f fd ps (spF K mg (runB n b) np) := by
  refine fnG_of Fd S (spF_len hp) fun cdv A outer s H vs Q E hgd hr hsp => ?_
  obtain ⟨t, ht, hs⟩ := (hb cdv A outer s H E hgd hr).ex
  refine ⟨t, ht, ?_⟩
  obtain ⟨F, ds, h1, h2, h3, h4⟩ := hsp
  refine hs ⟨H, F, [], fun _ => none, none⟩ True.intro F _ _ H _ (rel_start h2 h3 (by rw [h1]; exact hn)) ?_
  refine (RP_runB h4).imp (fun fl ρ z => ?_) fun er ρ z => ?_
  · intro σ' F' H' e r
    cases fl with
    | nx => exact z _ F' H' (r.cp rfl) Rep.non
    | bk => exact z.elim
    | ct => exact z.elim
    | rt rv =>
      intro v rk
      cases rv with
      | d d => exact z v F' H' (r.cp rfl) rk
      | fr d =>
        obtain ⟨p, o, a1, a2, a3, a4, r1⟩ := rk
        exact z v F' H' (r.cp rfl) ⟨p, o, a1, r1.heldAt.2, r1.heldAt.1, a2, a3⟩
      | ow t =>
        obtain ⟨R, a1, a2, a3, r1⟩ := rk
        exact z v F' H' (r.cp rfl) ⟨R, a1, a2, fun a ha => ⟨r1.offC a1 a ha, (a3 a ha).1⟩⟩
      | bor i =>
        rcases z with ⟨d, hi, z⟩ | ⟨d, hi, z⟩ | ⟨t, hi, z⟩
        · obtain ⟨p, o, a1, a2, a3, a4, a5⟩ := r.mu i false d hi
          have rk' : σ'[i]? = some (some v) := rk
          rw [a1] at rk'; cases rk'
          exact z _ F' H' (r.cp rfl) ⟨p, o, rfl, a2, a3, a4, a5 rfl⟩
        rotate_left
        · obtain ⟨u, R, a1, a2, a3, a4, r1⟩ := r.takeOt hi
          have rk' : σ'[i]? = some (some v) := rk
          rw [a1] at rk'; cases rk'
          exact z _ F' H' (r.cp rfl) ⟨R, a2, a3, fun a ha => ⟨r1.offC a2 a ha, (a4 a ha).1⟩⟩
        · obtain ⟨u, a1, a2⟩ := r.val i d hi
          have rk' : σ'[i]? = some (some v) := rk
          rw [a1] at rk'; cases rk'
          exact z _ F' H' (r.cp rfl) a2
  · intro cls d σ' F' H' e r ek
    exact z cls d F' H' (r.cp rfl) ek
theorem fnI {x qual : Str} {st : Stmt} {f : Addr} {fd : FuncData} {N ps : List Str} {k n np : Nat} {b : M Fl} (Fd : Fun K x qual st f fd) (S : FnScope N ps (defScope st)) (hp : ps.length = np + 1) (hn : np + 1 + n = N.length)
    (hb : ∀ (cdv : Value) (A : Around) (outer : List Env) (s : Shared) (H : Hp) (E : XK), A.guards = some [] → Room k (A.deeper (envOfC qual (defScope st) s.heap.objs.size f cdv)) →
      SSs (cxOf (L2.CX P w) P w K mg base N qual (defScope st) f cdv A outer s H E) ⟨fun cls d _ G => E cls d G, fun _ => True⟩ (defBody st) b) : FnG P w K mg base (k + 1) f fd ps (spI K mg (runB n b) np) := by
  refine fnG_of Fd S (spI_len hp) fun cdv A outer s H vs Q E hgd hr hsp => ?_
  obtain ⟨t, ht, hs⟩ := (hb cdv A outer s H E hgd hr).ex
  refine ⟨t, ht, ?_⟩
  obtain ⟨F, d0, p, o, ds, ws, rfl, h1, h2, h3, h4, h5, h6, h7⟩ := hsp
  refine hs ⟨H, F, [(0, p)], fun _ => none, none⟩ True.intro F _ _ H _ (rel_startI h2 h3 h4 h5 h6 (by rw [h1]; exact hn)) ?_
  have fin : ∀ {F' H' : Hp} {ρ : VE} {σ' : L2.St}, Rel K ⟨H, F, [(0, p)], fun _ => none, none⟩ F' ρ σ' H' → ∃ d' o', ρ[0]? = some (Sl.mu true d') ∧ F' p = none ∧ H' p = some o' ∧ RepO K F' d' o' := fun {F' H' ρ σ'} r => by
    obtain ⟨a1, d', a2⟩ := r.io 0 p (List.mem_singleton.mpr rfl)
    obtain ⟨q, o', b1, b2, b3, b4, _⟩ := r.mu 0 true d' a2
    rw [a1] at b1; cases b1
    exact ⟨d', o', a2, b2, b3, b4⟩
  refine (RP_runB h7).imp (fun fl ρ z => ?_) fun er ρ z => ?_
  · intro σ' F' H' e r
    obtain ⟨d', o', c1, c2, c3, c4⟩ := fin r
    cases fl with
    | nx => exact z _ F' H' d' o' (r.cpI rfl) c1 c2 c3 c4 Rep.non
    | bk => exact z.elim
    | ct => exact z.elim
    | rt rv =>
      intro v rk
      cases rv with
      | d d => exact z v F' H' d' o' (r.cpI rfl) c1 c2 c3 c4 rk
      | fr d =>
        obtain ⟨p, o, a1, a2, a3, a4, r1⟩ := rk
        exact z v F' H' d' o' (r.cpI rfl) c1 c2 c3 c4 ⟨p, o, a1, r1.heldAt.2, r1.heldAt.1, a2, a3⟩
      | ow t =>
        obtain ⟨R, a1, a2, a3, r1⟩ := rk
        exact z v F' H' d' o' (r.cpI rfl) c1 c2 c3 c4 ⟨R, a1, a2, fun a ha => ⟨r1.offC a1 a ha, (a3 a ha).1⟩⟩
      | bor i =>
        rcases z with ⟨d, hi, z⟩ | ⟨d, hi, z⟩ | ⟨t, hi, z⟩
        rotate_left 2
        · obtain ⟨u, R, a1, a2, a3, a4, r1⟩ := r.takeOt hi
          have rk' : σ'[i]? = some (some v) := rk
          rw [a1] at rk'; cases rk'
          have hi0 : i ≠ 0 := fun y => by subst y; rw [c1] at hi; cases hi
          exact z _ F' H' d' o' (r.cpI rfl) (by rw [List.getElem?_set_ne hi0]; exact c1) c2 c3 c4 ⟨R, a2, a3, fun a ha => ⟨r1.offC a2 a ha, (a4 a ha).1⟩⟩
        · obtain ⟨p, o, a1, a2, a3, a4, a5⟩ := r.mu i false d hi
          have rk' : σ'[i]? = some (some v) := rk
          rw [a1] at rk'; cases rk'
          have hi0 : i ≠ 0 := fun y => by subst y; rw [c1] at hi; cases hi
          exact z _ F' H' d' o' (r.cpI rfl) (by rw [List.getElem?_set_ne hi0]; exact c1) c2 c3 c4 ⟨p, o, rfl, a2, a3, a4, a5 rfl⟩
        · obtain ⟨u, a1, a2⟩ := r.val i d hi
          have rk' : σ'[i]? = some (some v) := rk
          rw [a1] at rk'; cases rk'
          exact z _ F' H' d' o' (r.cpI rfl) c1 c2 c3 c4 a2
  · intro cls d σ' F' H' e r ek
    obtain ⟨d', o', c1, c2, c3, c4⟩ := fin r
    exact z cls d F' H' d' o' (r.cpI rfl) c1 c2 c3 c4 ek
end
end P0
end
section
set_option Elab.async false
set_option linter.all false
set_option maxRecDepth 100000
set_option maxHeartbeats 4000000
/-! P0, expressions. -/
namespace P0
open PySem PySem.Spec L2
open PyProof.Rows hiding St

/-! ### what stands behind Top -/
section
variable {K : PySem.W.Frag} {F H : Hp} {v : V}
theorem Top.int {i : Int} (h : Top K F H (.int i) v) : v = .int i := by
  rcases h with h | ⟨p, o, rfl, _, h⟩
  · cases h; rfl
  · cases h
theorem Top.bl {b : Bool} (h : Top K F H (.bl b) v) : v = .bl b := by
  rcases h with h | ⟨p, o, rfl, _, h⟩
  · cases h; rfl
  · cases h
theorem Top.str {x : Str} (h : Top K F H (.str x) v) : v = .str x := by
  rcases h with h | ⟨p, o, rfl, _, h⟩
  · cases h; rfl
  · cases h
theorem Top.non (h : Top K F H .non v) : v = .non := by
  rcases h with h | ⟨p, o, rfl, _, h⟩
  · cases h; rfl
  · cases h
theorem Top.lst {xs : List Dv} (e : Ext F H) (h : Top K F H (.lst xs) v) : ∃ a vs, v = .ref a ∧ H a = some (.lst vs) ∧ Reps K F xs vs := by
  rcases h with h | ⟨p, o, rfl, ho, h⟩
  · cases h with
    | lst h1 h2 => exact ⟨_, _, rfl, e _ _ h1, h2⟩
  · cases h with
    | lst h2 => exact ⟨_, _, rfl, ho, h2⟩
theorem Top.rls {xs : List Dv} (e : Ext F H) (h : Top K F H (.rls xs) v) : ∃ a vs, v = .ref a ∧ SqL K H a vs ∧ Reps K F xs vs := by
  rcases h with h | ⟨p, o, rfl, ho, h⟩
  · cases h with
    | rls h1 h2 => exact ⟨_, _, rfl, SqL.ext e h1, h2⟩
  · cases h
theorem Top.tup {xs : List Dv} (e : Ext F H) (h : Top K F H (.tup xs) v) : ∃ a vs, v = .ref a ∧ SqT K H a vs ∧ Reps K F xs vs := by
  rcases h with h | ⟨p, o, rfl, ho, h⟩
  · cases h with
    | tup h1 h2 => exact ⟨_, _, rfl, SqT.ext e h1, h2⟩
  · cases h
/-- the items of a list or tuple -/
def items? : Dv → Option (List Dv)
  | .lst xs => some xs
  | .rls xs => some xs
  | .tup xs => some xs
  | _ => none
theorem Top.seq {d : Dv} {xs : List Dv} (e : Ext F H) (h : Top K F H d v) (hx : items? d = some xs) : ∃ a vs, v = .ref a ∧ (SqL K H a vs ∨ SqT K H a vs) ∧ Reps K F xs vs := by
  cases d with
  | lst ys =>
    cases hx
    obtain ⟨a, vs, rfl, h1, h2⟩ := h.lst e
    exact ⟨a, vs, rfl, .inl (SqL.of h1), h2⟩
  | rls ys =>
    cases hx
    obtain ⟨a, vs, rfl, h1, h2⟩ := h.rls e
    exact ⟨a, vs, rfl, .inl h1, h2⟩
  | tup ys =>
    cases hx
    obtain ⟨a, vs, rfl, h1, h2⟩ := h.tup e
    exact ⟨a, vs, rfl, .inr h1, h2⟩
  | _ => cases hx
end
/-- the keys of dicts, against what they hold -/
abbrev KD (K : PySem.W.Frag) (F : Hp) {κ : Type} : List (κ × Dv) → List (κ × V) → Prop := Paired fun p q => p.1 = q.1 ∧ Rep K F p.2 q.2
section
variable {K : PySem.W.Frag} {F H : Hp} {v : V} {κ : Type}
theorem KD.of : ∀ {ks : List κ} {xs : List Dv} {vs : List V}, ks.length = xs.length → Reps K F xs vs → KD K F (ks.zip xs) (ks.zip vs)
  | [], [], _, _, .nil => .nil
  | k :: ks, d :: xs, _, hl, .cons a b => .cons ⟨rfl, a⟩ (KD.of (by simpa using hl) b)
  | [], _ :: _, _, hl, _ => by simp at hl
  | _ :: _, [], _, hl, _ => by simp at hl
theorem KD.to : ∀ {ps : List (κ × Dv)} {qs : List (κ × V)}, KD K F ps qs → ∃ ks xs vs, ps = List.zip ks xs ∧ qs = List.zip ks vs ∧ ks.length = xs.length ∧ Reps K F xs vs
  | _, _, .nil => ⟨[], [], [], rfl, rfl, rfl, .nil⟩
  | p :: ps, q :: qs, .cons h t => by
    obtain ⟨ks, xs, vs, rfl, rfl, h1, h2⟩ := KD.to t
    obtain ⟨k, d⟩ := p
    obtain ⟨k', v⟩ := q
    obtain ⟨e, r⟩ := h
    cases e
    exact ⟨k :: ks, d :: xs, v :: vs, rfl, rfl, by simp [h1], .cons r h2⟩
theorem Top.dct {kvs : List (Key × Dv)} (e : Ext F H) (h : Top K F H (.dct kvs) v) : ∃ a qs, v = .ref a ∧ H a = some (.dK qs) ∧ KD K F kvs qs := by
  rcases h with h | ⟨p, o, rfl, ho, h⟩
  · cases h with
    | dct h1 h2 h3 => exact ⟨_, _, rfl, e _ _ h1, KD.of h2 h3⟩
  · cases h with
    | dct h2 h3 => exact ⟨_, _, rfl, ho, KD.of h2 h3⟩
theorem RepO.ofD {kvs : List (Key × Dv)} {qs : List (Key × V)} (h : KD K F kvs qs) : RepO K F (.dct kvs) (.dK qs) := by
  obtain ⟨ks, xs, vs, rfl, rfl, h1, h2⟩ := KD.to h
  exact .dct h1 h2
theorem RepO.dctI {kvs : List (Key × Dv)} {o : HO} (h : RepO K F (.dct kvs) o) : ∃ qs, o = .dK qs ∧ KD K F kvs qs := by
  cases h with
  | dct a b => exact ⟨_, rfl, KD.of a b⟩
theorem RepO.lstI {xs : List Dv} {o : HO} (h : RepO K F (.lst xs) o) : ∃ vs, o = .lst vs ∧ Reps K F xs vs := by
  cases h with
  | lst a => exact ⟨_, rfl, a⟩
variable [DecidableEq κ]
def valD {α : Type} (kvs : List (κ × α)) (k : κ) : Option α := (kvs.find? fun kv => decide (kv.1 = k)).map (·.2)
def putD {α : Type} (kvs : List (κ × α)) (k : κ) (v : α) : List (κ × α) := if (kvs.any fun kv => decide (kv.1 = k)) = true then kvs.map (fun kv => if kv.1 = k then (kv.1, v) else kv) else kvs ++ [(k, v)]
def dropD {α : Type} (kvs : List (κ × α)) (k : κ) : List (κ × α) := kvs.filter fun kv => decide (kv.1 ≠ k)
theorem KD.val {ps : List (κ × Dv)} {qs : List (κ × V)} (h : KD K F ps qs) (k : κ) : (valD ps k = none ∧ valV qs k = none) ∨ ∃ d v, valD ps k = some d ∧ valV qs k = some v ∧ Rep K F d v := by
  induction h with
  | nil => exact .inl ⟨rfl, rfl⟩
  | @cons p q ps qs hr _ ih =>
    obtain ⟨e, r⟩ := hr
    unfold valD valV at ih ⊢
    rw [List.find?_cons, List.find?_cons, ← e]
    by_cases z : p.1 = k
    · rw [decide_eq_true z]
      exact .inr ⟨_, _, rfl, rfl, r⟩
    · rw [decide_eq_false z]
      exact ih
theorem KD.any {ps : List (κ × Dv)} {qs : List (κ × V)} (h : KD K F ps qs) (k : κ) : (ps.any fun kv => decide (kv.1 = k)) = qs.any fun kv => decide (kv.1 = k) := by
  induction h with
  | nil => rfl
  | cons hr _ ih => rw [List.any_cons, List.any_cons, ih, hr.1]
theorem KD.append {ps : List (κ × Dv)} {qs : List (κ × V)} (h : KD K F ps qs) {d : Dv} {v : V} (r : Rep K F d v) (k : κ) : KD K F (ps ++ [(k, d)]) (qs ++ [(k, v)]) := by
  induction h with
  | nil => exact .cons ⟨rfl, r⟩ .nil
  | cons hr _ ih => exact .cons hr ih
theorem KD.repl {ps : List (κ × Dv)} {qs : List (κ × V)} (h : KD K F ps qs) {d : Dv} {v : V} (r : Rep K F d v) (k : κ) : KD K F (ps.map fun kv => if kv.1 = k then (kv.1, d) else kv) (qs.map fun kv => if kv.1 = k then (kv.1, v) else kv) := by
  induction h with
  | nil => exact .nil
  | @cons p q ps qs hr _ ih =>
    refine .cons ?_ ih
    dsimp only
    rw [← hr.1]
    by_cases z : p.1 = k
    · rw [if_pos z, if_pos z]; exact ⟨rfl, r⟩
    · rw [if_neg z, if_neg z]; exact hr
theorem KD.put {ps : List (κ × Dv)} {qs : List (κ × V)} (h : KD K F ps qs) {d : Dv} {v : V} (r : Rep K F d v) (k : κ) : KD K F (putD ps k d) (putK qs k v) := by
  unfold putD putK
  rw [h.any k]
  split
  · exact h.repl r k
  · exact h.append r k
theorem KD.drop {ps : List (κ × Dv)} {qs : List (κ × V)} (h : KD K F ps qs) (k : κ) : KD K F (dropD ps k) (dropK qs k) := by
  unfold dropD dropK
  induction h with
  | nil => exact .nil
  | @cons p q ps qs hr _ ih =>
    rw [List.filter_cons, List.filter_cons, ← hr.1]
    by_cases z : p.1 = k
    · rw [decide_eq_false (fun y => y z)]; exact ih
    · rw [decide_eq_true z]; exact .cons hr ih
end

/-! ### names, constants -/
section
variable {X : Cx} {W : Wh} {a b c e : Expr} {pos : Pos}
def eV (i : Nat) : M RV := fun ρ => match ρ[i]? with
  | some (.val d) => .ok (.d d) ρ
  | some (.mu _ _) => .ok (.bor i) ρ
  | some (.ot _) => .ok (.bor i) ρ
  | _ => .bad
theorem se_var (i : Nat) {x : Str} (hN : X.N[i]? = some x := by rfl) (hv : Vis X.env.scope x := by first | exact Or.inl rfl | exact Or.inr (Or.inl rfl) | exact Or.inr (Or.inr rfl)) (hd : (x == ("__debug__" : Str)) = false := by decide)
    (hcd : (x == ("__classdict__" : Str)) = false := by decide) : SE X W (.Name x pos) (eV i) := by
  refine ⟨tVar i, pv i hN hv hd hcd, fun g hw F ρ σ H Q r z => ?_⟩
  unfold eV at z
  cases e : ρ[i]? with
  | none => simp only [e] at z; exact z.elim
  | some s =>
    simp only [e] at z
    cases s with
    | no => exact z.elim
    | exn => exact z.elim
    | ot t =>
      obtain ⟨v, R, h1, _⟩ := r.takeOt e
      exact ⟨v, h1, z v F H (Ext.refl F) r h1⟩
    | val d =>
      obtain ⟨v, h1, h2⟩ := r.val i d e
      exact ⟨v, h1, z v F H (Ext.refl F) r h2⟩
    | mu b d =>
      obtain ⟨p, o, h1, _⟩ := r.mu i b d e
      exact ⟨_, h1, z _ F H (Ext.refl F) r h1⟩
def eC (d : Dv) : M RV := pure (.d d)
theorem se_pure {d : Dv} {v : V} (h : PE X e (tC v)) (hr : ∀ F, Rep X.K F d v) : SE X W e (eC d) := ⟨tC v, h, fun g hw F ρ σ H Q r z => z v F H (Ext.refl F) r (hr F)⟩
theorem se_int {i j} : SE X W (.Constant (.int i) j pos) (eC (.int i)) := se_pure pe_int fun _ => .int i
theorem se_bl {i j} : SE X W (.Constant (.bool i) j pos) (eC (.bl i)) := se_pure pe_bl fun _ => .bl i
theorem se_str {i j} : SE X W (.Constant (.str i) j pos) (eC (.str i)) := se_pure pe_str fun _ => .str i
theorem se_non {j} : SE X W (.Constant .none j pos) (eC .non) := se_pure pe_non fun _ => .non
theorem se_glob {x : Str} {d : Dv} {v : V} {u : Value} (hg : Gl X x) (hm : X.mg x = some u) (r : RelV v u) (hr : ∀ F, Rep X.K F d v) (hd : (x == ("__debug__" : Str)) = false := by decide) : SE X W (.Name x pos) (eC d) := se_pure (pe_glob hg hm r hd) hr

/-! ### two operands -/
def b2 (p : Dv → Dv → M RV) (ma mb : M AV) : M RV := do
  let x ← ma
  let y ← mb
  let d ← con x
  let e ← con y
  p d e
def P2 (X : Cx) (r : R2) (p : Dv → Dv → M RV) : Prop := ∀ (g : Gx) (F : Hp) (ρ : VE) (σ : L2.St) (H : Hp) (x y : V) (dx dy : Dv) (Q : VK) (W : Wh), Rel X.K g F ρ σ H → Top X.K F H dx x → Top X.K F H dy y → RP (p dx dy ρ) (okE X g F σ Q) (exE X g F W) → r x y H Q
theorem s2 {r : R2} {p : Dv → Dv → M RV} {ma mb : M AV} (hp : P2 X r p) (ha : SF X W a ma) (hb : SF X W b mb) : ∃ ta tb, PE X a ta ∧ PE X b tb ∧ ∀ g, W.p g → ∀ F ρ σ H Q, Rel X.K g F ρ σ H → RP (b2 p ma mb ρ) (okE X g F σ Q) (exE X g F W) → tOp r ta tb σ H Q := by
  obtain ⟨ta, pa, qa⟩ := ha.ex
  obtain ⟨tb, pb, qb⟩ := hb.ex
  refine ⟨ta, tb, pa, pb, fun g hw F ρ σ H Q rel z => ?_⟩
  unfold b2 at z
  rw [RP_bnd] at z
  refine qa g hw F ρ σ H _ rel (z.imp (fun x ρ1 z1 => ?_) fun _ _ k => k)
  intro v F1 H1 e1 rel1 ok1
  rw [RP_bnd] at z1
  refine qb g hw F1 ρ1 σ H1 _ rel1 (z1.imp (fun y ρ2 z2 => ?_) fun _ _ k => k.ext e1)
  intro u F2 H2 e2 rel2 ok2
  rw [RP_bnd] at z2
  obtain ⟨dx, tx, z3⟩ := con_ok rel2 (ok1.mono e2) z2
  rw [RP_bnd] at z3
  obtain ⟨dy, ty, z4⟩ := con_ok rel2 ok2 z3
  exact hp g F2 ρ2 σ H2 v u dx dy Q W rel2 tx ty (z4.imp (fun _ _ k => k.ext (e1.trans e2)) fun _ _ k => k.ext (e1.trans e2))
theorem se_bin {op : Operator} {r : R2} {p : Dv → Dv → M RV} {ma mb : M AV} (ho : OpR X (binaryOp op) r) (hp : P2 X r p) (ha : SF X W a ma) (hb : SF X W b mb) : SE X W (.BinOp a op b pos) (b2 p ma mb) := by
  obtain ⟨ta, tb, pa, pb, q⟩ := s2 hp ha hb
  exact ⟨_, pe_op ho pa pb, q⟩
theorem se_cmp {op : CmpOp} {r : R2} {p : Dv → Dv → M RV} {ma mb : M AV} (ho : OpR X (compareOp op) r) (hp : P2 X r p) (ha : SF X W a ma) (hb : SF X W b mb) (hm : behindInMarks op b = false) : SE X W (.Compare a [op] [b] pos) (b2 p ma mb) := by
  obtain ⟨ta, tb, pa, pb, q⟩ := s2 hp ha hb
  exact ⟨_, pe_cmpR ho pa pb hm, q⟩
theorem se_ix {r : R2} {p : Dv → Dv → M RV} {ma mb : M AV} (hr : IxR X r) (hp : P2 X r p) (ha : SF X W a ma) (hb : SF X W b mb) (hs : PlainIx b) : SE X W (.Subscript a b pos) (b2 p ma mb) := by
  obtain ⟨ta, tb, pa, pb, q⟩ := s2 hp ha hb
  exact ⟨_, pe_ix hr pa pb hs, q⟩
/-- a test, of a value that is a bool -/
def toB (m : M RV) : M Bool := do
  let r ← m
  match r with
  | .d (.bl b) => pure b
  | _ => M.bad
theorem toB_ok {g : Gx} {F : Hp} {σ : L2.St} {m : M RV} {ρ : VE} {Q : Bool → Hp → Prop} {ex : Er → VE → Prop} (z : RP (toB m ρ) (okT X g F σ Q) ex) : RP (m ρ) (okE X g F σ fun x H' => ∃ k, x = .bl k ∧ Q k H') ex := by
  unfold toB at z
  rw [RP_bnd] at z
  refine z.imp (fun rv ρ' k => ?_) fun _ _ k => k
  intro v F' H' e1 r1 ok
  cases rv with
  | fr d => exact k.elim
  | bor i => exact k.elim
  | ow t => exact k.elim
  | d d =>
    cases d with
    | bl b =>
      cases ok
      exact ⟨b, rfl, k F' H' e1 r1⟩
    | _ => exact k.elim
theorem st_cmp {op : CmpOp} {r : R2} {p : Dv → Dv → M RV} {ma mb : M AV} (ho : OpR X (compareOp op) r) (hp : P2 X r p) (ha : SF X W a ma) (hb : SF X W b mb) (hm : behindInMarks op b = false) : STt X W (.Compare a [op] [b] pos) (toB (b2 p ma mb)) := by
  obtain ⟨ta, tb, pa, pb, q⟩ := s2 hp ha hb
  refine ⟨_, pt_cmpR ho pa pb hm, fun g hw F ρ σ H Q rel z => ?_⟩
  exact q g hw F ρ σ H _ rel (toB_ok z)
/-- a op b op' c -/
def e3 (p p' : Dv → Dv → M RV) (ma mb mc : M AV) : M RV := do
  let x ← ma
  let y ← mb
  let d ← con x
  let e ← con y
  let k ← toB (p d e)
  if k = true then do
    let w ← mc
    let e ← con y
    let f ← con w
    p' e f
  else pure (.d (.bl false))
theorem s3 {r r' : R2} {p p' : Dv → Dv → M RV} {ma mb mc : M AV} (hp : P2 X r p) (hp' : P2 X r' p') (ha : SF X W a ma) (hb : SF X W b mb) (hc : SF X W c mc) : ∃ ta tb tc, PE X a ta ∧ PE X b tb ∧ PE X c tc ∧ ∀ g, W.p g → ∀ F ρ σ H Q, Rel X.K g F ρ σ H → RP (e3 p p' ma mb mc ρ) (okE X g F σ Q) (exE X g F W) → tChain r r' ta tb tc σ H Q := by
  obtain ⟨ta, pa, qa⟩ := ha.ex
  obtain ⟨tb, pb, qb⟩ := hb.ex
  obtain ⟨tc, pc, qc⟩ := hc.ex
  refine ⟨ta, tb, tc, pa, pb, pc, fun g hw F ρ σ H Q rel z => ?_⟩
  unfold e3 at z
  rw [RP_bnd] at z
  refine qa g hw F ρ σ H _ rel (z.imp (fun x ρ1 z1 => ?_) fun _ _ k => k)
  intro v F1 H1 e1 rel1 ok1
  rw [RP_bnd] at z1
  refine qb g hw F1 ρ1 σ H1 _ rel1 (z1.imp (fun y ρ2 z2 => ?_) fun _ _ k => k.ext e1)
  intro u F2 H2 e2 rel2 ok2
  rw [RP_bnd] at z2
  obtain ⟨dx, tx, z3⟩ := con_ok rel2 (ok1.mono e2) z2
  rw [RP_bnd] at z3
  obtain ⟨dy, ty, z4⟩ := con_ok rel2 ok2 z3
  rw [RP_bnd] at z4
  refine hp g F2 ρ2 σ H2 v u dx dy _ W rel2 tx ty (toB_ok (z4.imp (fun k ρ3 z5 => ?_) fun _ _ k => k.ext (e1.trans e2)))
  intro F3 H3 f3 rel3
  cases k with
  | false => exact z5 (.bl false) F3 H3 ((e1.trans e2).trans f3) rel3 (.bl false)
  | true =>
    simp only [if_pos] at z5 ⊢
    rw [RP_bnd] at z5
    refine qc g hw F3 ρ3 σ H3 _ rel3 (z5.imp (fun w ρ4 z6 => ?_) fun _ _ k => k.ext ((e1.trans e2).trans f3))
    intro t F4 H4 e4 rel4 ok4
    rw [RP_bnd] at z6
    obtain ⟨dy', ty', z7⟩ := con_ok rel4 ((ok2.mono f3).mono e4) z6
    rw [RP_bnd] at z7
    obtain ⟨dw, tw, z8⟩ := con_ok rel4 ok4 z7
    exact hp' g F4 ρ4 σ H4 u t dy' dw Q W rel4 ty' tw (z8.imp (fun _ _ k => k.ext (((e1.trans e2).trans f3).trans e4)) fun _ _ k => k.ext (((e1.trans e2).trans f3).trans e4))
theorem se_chain {op op' : CmpOp} {r r' : R2} {p p' : Dv → Dv → M RV} {ma mb mc : M AV} (ho : OpR X (compareOp op) r) (ho' : OpR X (compareOp op') r') (hp : P2 X r p) (hp' : P2 X r' p') (ha : SF X W a ma) (hb : SF X W b mb) (hc : SF X W c mc)
    (hm : lastMarks [op, op'] [b, c] = false := by with_unfolding_all rfl) : SE X W (.Compare a [op, op'] [b, c] pos) (e3 p p' ma mb mc) := by
  obtain ⟨ta, tb, tc, pa, pb, pc, q⟩ := s3 hp hp' ha hb hc
  exact ⟨_, pe_chain ho ho' pa pb pc hm, q⟩
theorem st_chain {op op' : CmpOp} {r r' : R2} {p p' : Dv → Dv → M RV} {ma mb mc : M AV} (ho : OpR X (compareOp op) r) (ho' : OpR X (compareOp op') r') (hp : P2 X r p) (hp' : P2 X r' p') (ha : SF X W a ma) (hb : SF X W b mb) (hc : SF X W c mc)
    (hm : lastMarks [op, op'] [b, c] = false := by with_unfolding_all rfl) : STt X W (.Compare a [op, op'] [b, c] pos) (toB (e3 p p' ma mb mc)) := by
  obtain ⟨ta, tb, tc, pa, pb, pc, q⟩ := s3 hp hp' ha hb hc
  exact ⟨_, pt_chain ho ho' pa pb pc hm, fun g hw F ρ σ H Q rel z => q g hw F ρ σ H _ rel (toB_ok z)⟩

/-! ### one operand -/
def b1 (p : Dv → M RV) (ma : M AV) : M RV := do
  let x ← ma
  let d ← con x
  p d
theorem se_un {op : UnaryOp} {r : V → Hp → VK → Prop} {p : Dv → M RV} {ma : M AV} (ho : UnR X (unaryOp op) r)
    (hp : ∀ g F ρ σ H x dx Q W, Rel X.K g F ρ σ H → Top X.K F H dx x → RP (p dx ρ) (okE X g F σ Q) (exE X g F W) → r x H Q) (ha : SF X W a ma) : SE X W (.UnaryOp op a pos) (b1 p ma) := by
  obtain ⟨ta, pa, qa⟩ := ha.ex
  refine ⟨_, pe_un ho pa, fun g hw F ρ σ H Q rel z => ?_⟩
  unfold b1 at z
  rw [RP_bnd] at z
  refine qa g hw F ρ σ H _ rel (z.imp (fun x ρ1 z1 => ?_) fun _ _ k => k)
  intro v F1 H1 e1 rel1 ok1
  rw [RP_bnd] at z1
  obtain ⟨dx, tx, z2⟩ := con_ok rel1 ok1 z1
  exact hp g F1 ρ1 σ H1 v dx Q W rel1 tx (z2.imp (fun _ _ k => k.ext e1) fun _ _ k => k.ext e1)

/-! ### truth, and, or, not, if -/
def tru : Dv → M Bool
  | .non => pure false
  | .bl b => pure b
  | .int i => pure (i != 0)
  | .str x => do M.grd (x.length ≤ sizeLine); pure ((x.length : Int) != 0)
  | .lst xs => pure (!xs.isEmpty)
  | .rls xs => pure (!xs.isEmpty)
  | .tup xs => pure (!xs.isEmpty)
  | .dct kvs => pure (!kvs.isEmpty)
  | _ => M.bad
theorem isEmpty_reps {K : PySem.W.Frag} {F : Hp} {ds : List Dv} {vs : List V} (h : Reps K F ds vs) : (!ds.isEmpty) = !vs.isEmpty := by
  cases h <;> rfl
theorem isEmpty_kd {K : PySem.W.Frag} {F : Hp} {ds : List (Key × Dv)} {vs : List (Key × V)} (h : KD K F ds vs) : (!ds.isEmpty) = !vs.isEmpty := by
  cases h <;> rfl
theorem tru_tv {g : Gx} {F : Hp} {ρ : VE} {σ : L2.St} {H : Hp} {v : V} {d : Dv} {ok : Bool → VE → Prop} {ex : Er → VE → Prop} (rel : Rel X.K g F ρ σ H) (t : Top X.K F H d v) (z : RP (tru d ρ) ok ex) : ∃ k, TruV X.K v H k ∧ ok k ρ := by
  cases d with
  | non => rw [t.non]; exact ⟨false, rfl, z⟩
  | bl b => rw [t.bl]; exact ⟨b, rfl, z⟩
  | int i => rw [t.int]; exact ⟨_, rfl, z⟩
  | str x =>
    rw [t.str]
    unfold tru at z
    rw [RP_bnd] at z
    obtain ⟨h1, h2⟩ := RP_grd z
    exact ⟨_, ⟨h1, rfl⟩, h2⟩
  | lst xs =>
    obtain ⟨a, vs, rfl, h1, h2⟩ := t.lst rel.ext
    exact ⟨_, .inl ⟨vs, SqL.of h1, isEmpty_reps h2⟩, z⟩
  | rls xs =>
    obtain ⟨a, vs, rfl, h1, h2⟩ := t.rls rel.ext
    exact ⟨_, .inl ⟨vs, h1, isEmpty_reps h2⟩, z⟩
  | tup xs =>
    obtain ⟨a, vs, rfl, h1, h2⟩ := t.tup rel.ext
    exact ⟨_, .inr (.inl ⟨vs, h1, isEmpty_reps h2⟩), z⟩
  | dct kvs =>
    obtain ⟨a, vs, rfl, h1, h2⟩ := t.dct rel.ext
    exact ⟨_, .inr (.inr ⟨vs, h1, isEmpty_kd h2⟩), z⟩
  | _ => exact z.elim
def eT (ma : M AV) : M Bool := do
  let x ← ma
  let d ← con x
  tru d
theorem st_tru {ma : M AV} (ha : SF X W a ma) (he : ∀ whole, isTrue a X.env whole = (do let v ← whole; standAt a.pos; holding [v] (truthy v)) := by intro _; rfl) : STt X W a (eT ma) := by
  obtain ⟨ta, pa, qa⟩ := ha.ex
  refine ⟨_, pt_truth pa he, fun g hw F ρ σ H Q rel z => ?_⟩
  unfold eT at z
  rw [RP_bnd] at z
  refine qa g hw F ρ σ H _ rel (z.imp (fun x ρ1 z1 => ?_) fun _ _ k => k)
  intro v F1 H1 e1 rel1 ok1
  rw [RP_bnd] at z1
  obtain ⟨dx, tx, z2⟩ := con_ok rel1 ok1 z1
  obtain ⟨k, h1, h2⟩ := tru_tv rel1 tx z2
  exact ⟨k, h1, h2 F1 H1 e1 rel1⟩
def tNt (m : M Bool) : M Bool := do
  let b ← m
  pure (!b)
theorem st_not {m : M Bool} (h : STt X W a m) : STt X W (.UnaryOp .Not a pos) (tNt m) := by
  obtain ⟨t, p, q⟩ := h.ex
  refine ⟨_, pt_not p, fun g hw F ρ σ H Q rel z => ?_⟩
  unfold tNt at z
  rw [RP_bnd] at z
  exact q g hw F ρ σ H _ rel z
def tAn (m n : M Bool) : M Bool := do
  let b ← m
  if b = true then n else pure false
def tO (m n : M Bool) : M Bool := do
  let b ← m
  if b = true then pure true else n
theorem sw_and1 {m : M Bool} (h : STt X W a m) : SW X W (.BoolOp .And [a] pos) m := by
  obtain ⟨t, p, q⟩ := h.ex
  exact ⟨t, pw_and1 p, q⟩
theorem sw_or1 {m : M Bool} (h : STt X W a m) : SW X W (.BoolOp .Or [a] pos) m := by
  obtain ⟨t, p, q⟩ := h.ex
  exact ⟨t, pw_or1 p, q⟩
theorem sw_and {m n : M Bool} {rest : List Expr} (h : STt X W a m) (h' : SW X W (.BoolOp .And (b :: rest) pos) n) : SW X W (.BoolOp .And (a :: b :: rest) pos) (tAn m n) := by
  obtain ⟨t, p, q⟩ := h.ex
  obtain ⟨t', p', q'⟩ := h'.ex
  refine ⟨_, pw_and p p', fun g hw F ρ σ H Q rel z => ?_⟩
  unfold tAn at z
  rw [RP_bnd] at z
  refine q g hw F ρ σ H _ rel (z.imp (fun k ρ1 z1 => ?_) fun _ _ k => k)
  intro F1 H1 e1 rel1
  cases k with
  | true =>
    simp only [if_pos] at z1 ⊢
    exact q' g hw F1 ρ1 σ H1 Q rel1 (z1.imp (fun _ _ k => k.ext e1) fun _ _ k => k.ext e1)
  | false => exact z1 F1 H1 e1 rel1
theorem sw_or {m n : M Bool} {rest : List Expr} (h : STt X W a m) (h' : SW X W (.BoolOp .Or (b :: rest) pos) n) : SW X W (.BoolOp .Or (a :: b :: rest) pos) (tO m n) := by
  obtain ⟨t, p, q⟩ := h.ex
  obtain ⟨t', p', q'⟩ := h'.ex
  refine ⟨_, pw_or p p', fun g hw F ρ σ H Q rel z => ?_⟩
  unfold tO at z
  rw [RP_bnd] at z
  refine q g hw F ρ σ H _ rel (z.imp (fun k ρ1 z1 => ?_) fun _ _ k => k)
  intro F1 H1 e1 rel1
  cases k with
  | true => exact z1 F1 H1 e1 rel1
  | false =>
    simp only [Bool.false_eq_true, if_false] at z1 ⊢
    exact q' g hw F1 ρ1 σ H1 Q rel1 (z1.imp (fun _ _ k => k.ext e1) fun _ _ k => k.ext e1)
theorem SW.tt {m : M Bool} (h : SW X W a m) : STt X W a m := by
  obtain ⟨t, p, q⟩ := h.ex
  exact ⟨t, p.pt, q⟩
/-- and, or, not as values: bools but the last one -/
def eAn (m n : M RV) : M RV := do
  let b ← toB m
  if b = true then n else pure (.d (.bl false))
def eO (m n : M RV) : M RV := do
  let b ← toB m
  if b = true then pure (.d (.bl true)) else n
def eNt (m : M RV) : M RV := do
  let b ← toB m
  pure (.d (.bl (!b)))
theorem se_one {op} {m : M RV} (h : SE X W a m) : SE X W (.BoolOp op [a] pos) m := by
  obtain ⟨t, p, q⟩ := h.ex
  exact ⟨t, pe_one p, q⟩
theorem se_and {m n : M RV} {rest : List Expr} (h : SE X W a m) (h' : SE X W (.BoolOp .And (b :: rest) pos) n) : SE X W (.BoolOp .And (a :: b :: rest) pos) (eAn m n) := by
  obtain ⟨t, p, q⟩ := h.ex
  obtain ⟨t', p', q'⟩ := h'.ex
  refine ⟨_, pe_and p p', fun g hw F ρ σ H Q rel z => ?_⟩
  unfold eAn at z
  rw [RP_bnd] at z
  refine q g hw F ρ σ H _ rel (toB_ok (z.imp (fun k ρ1 z1 => ?_) fun _ _ k => k))
  intro F1 H1 e1 rel1
  cases k with
  | true =>
    simp only [if_pos] at z1 ⊢
    exact q' g hw F1 ρ1 σ H1 Q rel1 (z1.imp (fun _ _ k => k.ext e1) fun _ _ k => k.ext e1)
  | false => exact z1 _ F1 H1 e1 rel1 (.bl false)
theorem se_or {m n : M RV} {rest : List Expr} (h : SE X W a m) (h' : SE X W (.BoolOp .Or (b :: rest) pos) n) : SE X W (.BoolOp .Or (a :: b :: rest) pos) (eO m n) := by
  obtain ⟨t, p, q⟩ := h.ex
  obtain ⟨t', p', q'⟩ := h'.ex
  refine ⟨_, pe_or p p', fun g hw F ρ σ H Q rel z => ?_⟩
  unfold eO at z
  rw [RP_bnd] at z
  refine q g hw F ρ σ H _ rel (toB_ok (z.imp (fun k ρ1 z1 => ?_) fun _ _ k => k))
  intro F1 H1 e1 rel1
  cases k with
  | true => exact z1 _ F1 H1 e1 rel1 (.bl true)
  | false =>
    simp only [Bool.false_eq_true, if_false] at z1 ⊢
    exact q' g hw F1 ρ1 σ H1 Q rel1 (z1.imp (fun _ _ k => k.ext e1) fun _ _ k => k.ext e1)
theorem se_not {m : M RV} (h : SE X W a m) : SE X W (.UnaryOp .Not a pos) (eNt m) := by
  obtain ⟨t, p, q⟩ := h.ex
  refine ⟨_, pe_not p, fun g hw F ρ σ H Q rel z => ?_⟩
  unfold eNt at z
  rw [RP_bnd] at z
  refine q g hw F ρ σ H _ rel (toB_ok (z.imp (fun k ρ1 z1 => ?_) fun _ _ k => k))
  intro F1 H1 e1 rel1
  exact z1 _ F1 H1 e1 rel1 (.bl _)
def eIf (c : M Bool) (m n : M RV) : M RV := do
  let b ← c
  if b = true then m else n
theorem se_if {k : M Bool} {m n : M RV} (hc : STt X W c k) (h : SE X W a m) (h' : SE X W b n) : SE X W (.IfExp c a b pos) (eIf k m n) := by
  obtain ⟨t0, p0, q0⟩ := hc.ex
  obtain ⟨t, p, q⟩ := h.ex
  obtain ⟨t', p', q'⟩ := h'.ex
  refine ⟨_, pe_ifExp p0 p p', fun g hw F ρ σ H Q rel z => ?_⟩
  unfold eIf at z
  rw [RP_bnd] at z
  refine q0 g hw F ρ σ H _ rel (z.imp (fun k ρ1 z1 => ?_) fun _ _ k => k)
  intro F1 H1 e1 rel1
  cases k with
  | true =>
    simp only [if_pos] at z1 ⊢
    exact q g hw F1 ρ1 σ H1 Q rel1 (z1.imp (fun _ _ k => k.ext e1) fun _ _ k => k.ext e1)
  | false =>
    simp only [Bool.false_eq_true, if_false] at z1 ⊢
    exact q' g hw F1 ρ1 σ H1 Q rel1 (z1.imp (fun _ _ k => k.ext e1) fun _ _ k => k.ext e1)

/-! ### arguments, displays -/
def aN : M (List AV) := pure []
def aC (m : M AV) (r : M (List AV)) : M (List AV) := do
  let x ← m
  let xs ← r
  pure (x :: xs)
theorem sa_nil : SA X W [] aN := ⟨tNil, pa_nil, fun g hw F ρ σ H Q rel z => z [] F H (Ext.refl F) rel .nil⟩
theorem sa_cons {es : List Expr} {m : M AV} {r : M (List AV)} (h : SF X W e m) (hr : SA X W es r) (hs : starEach (e :: es) X.env = (false, eval e X.env) :: starEach es X.env := by rfl) : SA X W (e :: es) (aC m r) := by
  obtain ⟨t, p, q⟩ := h.ex
  obtain ⟨t', p', q'⟩ := hr.ex
  refine ⟨_, pa_cons p p' hs, fun g hw F ρ σ H Q rel z => ?_⟩
  unfold aC at z
  rw [RP_bnd] at z
  refine q g hw F ρ σ H _ rel (z.imp (fun x ρ1 z1 => ?_) fun _ _ k => k)
  intro v F1 H1 e1 rel1 ok1
  rw [RP_bnd] at z1
  refine q' g hw F1 ρ1 σ H1 _ rel1 (z1.imp (fun xs ρ2 z2 => ?_) fun _ _ k => k.ext e1)
  intro vs F2 H2 e2 rel2 ok2
  exact z2 (v :: vs) F2 H2 (e1.trans e2) rel2 (.cons (ok1.mono e2) ok2)
def conL : List AV → M (List Dv)
  | [] => pure []
  | a :: as => do
    let d ← con a
    let ds ← conL as
    pure (d :: ds)
def aliL : List AV → M (List Dv)
  | [] => pure []
  | a :: as => do
    let d ← ali a
    let ds ← aliL as
    pure (d :: ds)
section
variable {K : PySem.W.Frag} {g : Gx} {H : Hp} {σ : L2.St}
theorem conL_ok : ∀ {as : List AV} {vs : List V} {F : Hp} {ρ : VE} {ok : List Dv → VE → Prop} {ex : Er → VE → Prop}, Rel K g F ρ σ H → Paired (AvOk K F σ) as vs → RP (conL as ρ) ok ex → ∃ ds, Paired (Top K F H) ds vs ∧ ok ds ρ
  | [], _, _, _, _, _, _, .nil, z => ⟨[], .nil, z⟩
  | a :: as, v :: vs, F, ρ, ok, ex, r, .cons h t, z => by
    unfold conL at z
    rw [RP_bnd] at z
    obtain ⟨d, h1, z1⟩ := con_ok r h z
    rw [RP_bnd] at z1
    obtain ⟨ds, h2, z2⟩ := conL_ok r t z1
    exact ⟨d :: ds, .cons h1 h2, z2⟩
theorem aliL_ok : ∀ {as : List AV} {vs : List V} {F : Hp} {ρ : VE} {ok : List Dv → VE → Prop} {ex : Er → VE → Prop}, Rel K g F ρ σ H → Paired (AvOk K F σ) as vs → RP (aliL as ρ) ok ex → ∃ ds F' ρ', Ext F F' ∧ Rel K g F' ρ' σ H ∧ Reps K F' ds vs ∧ ok ds ρ'
  | [], _, F, ρ, _, _, r, .nil, z => ⟨[], F, ρ, Ext.refl F, r, .nil, z⟩
  | a :: as, v :: vs, F, ρ, ok, ex, r, .cons h t, z => by
    unfold aliL at z
    rw [RP_bnd] at z
    obtain ⟨d, F1, ρ1, e1, r1, h1, z1⟩ := ali_ok r h z
    rw [RP_bnd] at z1
    obtain ⟨ds, F2, ρ2, e2, r2, h2, z2⟩ := aliL_ok r1 (L2.Paired.mapP t fun a b k => k.mono e1) z1
    exact ⟨d :: ds, F2, ρ2, e1.trans e2, r2, .cons (h1.mono e2) h2, z2⟩
end
/-- a display -/
def eLst (m : M (List AV)) : M RV := do
  let as ← m
  let ds ← aliL as
  M.grd (ds.length ≤ sizeLine)
  pure (.fr (.lst ds))
def eTup (m : M (List AV)) : M RV := do
  let as ← m
  let ds ← aliL as
  M.grd (ds.length ≤ sizeLine)
  pure (.d (.tup ds))
theorem se_lst {es : List Expr} {m : M (List AV)} (h : SA X W es m) : SE X W (.List es pos) (eLst m) := by
  obtain ⟨t, p, q⟩ := h.ex
  refine ⟨_, pe_lst p, fun g hw F ρ σ H Q rel z => ?_⟩
  unfold eLst at z
  rw [RP_bnd] at z
  refine q g hw F ρ σ H _ rel (z.imp (fun as ρ1 z1 => ?_) fun _ _ k => k)
  intro vs F1 H1 e1 rel1 ok1
  rw [RP_bnd] at z1
  obtain ⟨ds, F2, ρ2, e2, r2, h2, z2⟩ := aliL_ok rel1 ok1 z1
  rw [RP_bnd] at z2
  obtain ⟨hl, z3⟩ := RP_grd z2
  refine ⟨by rw [← h2.length]; exact hl, fun p hp => ?_⟩
  exact z3 (.ref p) F2 _ (e1.trans e2) (r2.alloc hp) (r2.fresh hp (.lst h2))
theorem se_tup {es : List Expr} {m : M (List AV)} {x1} (h : SA X W es m) : SE X W (.Tuple es x1 pos) (eTup m) := by
  obtain ⟨t, p, q⟩ := h.ex
  refine ⟨_, pe_tup p, fun g hw F ρ σ H Q rel z => ?_⟩
  unfold eTup at z
  rw [RP_bnd] at z
  refine q g hw F ρ σ H _ rel (z.imp (fun as ρ1 z1 => ?_) fun _ _ k => k)
  intro vs F1 H1 e1 rel1 ok1
  rw [RP_bnd] at z1
  obtain ⟨ds, F2, ρ2, e2, r2, h2, z2⟩ := aliL_ok rel1 ok1 z1
  rw [RP_bnd] at z2
  obtain ⟨hl, z3⟩ := RP_grd z2
  refine ⟨by rw [← h2.length]; exact hl, fun p hp => ?_⟩
  have hF := r2.ext.none hp
  exact z3 (.ref p) _ _ ((e1.trans e2).trans (ext_upd hF)) ((r2.allocH hp).freeze (r2.freeH0 hp) (r2.noHeld hp)) (.tup (SqT.of upd_same) (h2.mono (ext_upd hF)))
/-- {} -/
def eDct : M RV := pure (.fr (.dct []))
theorem se_dct : SE X W (.Dict [] [] pos) eDct := ⟨_, pe_dnewK, fun g hw F ρ σ H Q rel z p hp => z (.ref p) F _ (Ext.refl F) (rel.alloc hp) (rel.fresh hp (.dct (ks := []) (xs := []) (vs := []) rfl .nil))⟩

/-! ### slices -/
def oN : M (Option AV) := pure none
def oS (m : M AV) : M (Option AV) := do
  let a ← m
  pure (some a)
def conI : Option AV → M (Option Int)
  | none => pure none
  | some a => do
    let d ← con a
    match d with
    | .int i => pure (some i)
    | _ => M.bad
structure SO (X : Cx) (W : Wh) (e : Option Expr) (m : M (Option Int)) : Prop where
  ex : ∃ t, PO X e t ∧ ∀ g, W.p g → ∀ F ρ σ H Q, Rel X.K g F ρ σ H → RP (m ρ) (fun o ρ' => ∀ F' H', Ext F F' → Rel X.K g F' ρ' σ H' → Q o H') (exE X g F W) → t σ H Q
def oI (m : M AV) : M (Option Int) := do
  let a ← m
  let d ← con a
  match d with
  | .int i => pure (some i)
  | _ => M.bad
def oO : M (Option Int) := pure none
theorem so_none : SO X W none oO := ⟨tNoPart, po_none, fun g hw F ρ σ H Q rel z => z F H (Ext.refl F) rel⟩
theorem so_some {m : M AV} (h : SF X W e m) : SO X W (some e) (oI m) := by
  obtain ⟨t, p, q⟩ := h.ex
  refine ⟨_, po_some p, fun g hw F ρ σ H Q rel z => ?_⟩
  unfold oI at z
  rw [RP_bnd] at z
  refine q g hw F ρ σ H _ rel (z.imp (fun a ρ1 z1 => ?_) fun _ _ k => k)
  intro v F1 H1 e1 rel1 ok1
  rw [RP_bnd] at z1
  obtain ⟨d, h1, z2⟩ := con_ok rel1 ok1 z1
  cases d with
  | int i => exact ⟨i, h1.int, z2 F1 H1 e1 rel1⟩
  | _ => exact z2.elim
/-- xs[lo:hi] -/
def cut {α : Type} (xs : List α) (lo hi : Option Int) : List α := (xs.drop (HT.sIx xs.length 0 lo)).take (HT.sIx xs.length xs.length hi - HT.sIx xs.length 0 lo)
theorem Reps.cut {K : PySem.W.Frag} {F : Hp} {ds : List Dv} {vs : List V} (h : Reps K F ds vs) (lo hi : Option Int) : Reps K F (P0.cut ds lo hi) (cutV vs lo hi) := by
  unfold P0.cut cutV
  rw [h.length]
  exact (h.drop _).take _
def pSl (d : Dv) (lo hi : Option Int) : M RV := match d with
  | .lst xs => pure (.fr (.lst (cut xs lo hi)))
  | .rls xs => pure (.fr (.lst (cut xs lo hi)))
  | .tup xs => do
    M.grd (¬ (HT.sIx xs.length 0 lo = 0 ∧ HT.sIx xs.length xs.length hi = xs.length))
    pure (.d (.tup (cut xs lo hi)))
  | .str x => do
    M.grd (x.length ≤ sizeLine)
    pure (.d (.str (cutS x lo hi)))
  | _ => M.bad
def eSl (ma : M AV) (ml mh : M (Option Int)) : M RV := do
  let x ← ma
  let lo ← ml
  let hi ← mh
  let d ← con x
  pSl d lo hi
end
end P0
end
section
set_option Elab.async false
set_option linter.all false
set_option maxRecDepth 100000
set_option maxHeartbeats 4000000
/-! P0, operators by values. -/
namespace P0
open PySem PySem.Spec L2
open PyProof.Rows hiding St

/-! ### plain data -/
mutual
def toPy : Dv → PyData
  | .non => .none
  | .bl b => .bool b
  | .int i => .int i
  | .str x => .str x
  | .lst xs => .list (toPys xs)
  | .rls xs => .list (toPys xs)
  | .tup xs => .tuple (toPys xs)
  | .cl _ => .none
  | .dct _ => .none
  | .dcT _ => .none
  | .ins _ _ => .none
def toPys : List Dv → List PyData
  | [] => []
  | d :: ds => toPy d :: toPys ds
end
mutual
/-- plain data: texts of true signs, lists, tuples -/
def isDt : Dv → Bool
  | .non => true
  | .bl _ => true
  | .int _ => true
  | .str x => PyData.strOk x
  | .lst xs => isDts xs
  | .rls xs => isDts xs
  | .tup xs => isDts xs
  | .cl _ => false
  | .dct _ => false
  | .dcT _ => false
  | .ins _ _ => false
def isDts : List Dv → Bool
  | [] => true
  | d :: ds => isDt d && isDts ds
end
mutual
def dpD : Dv → Nat
  | .lst xs => dpDs xs + 1
  | .rls xs => dpDs xs + 1
  | .tup xs => dpDs xs + 1
  | .non => 0
  | .bl _ => 0
  | .int _ => 0
  | .str _ => 0
  | .cl _ => 0
  | .dct _ => 0
  | .dcT _ => 0
  | .ins _ _ => 0
def dpDs : List Dv → Nat
  | [] => 0
  | d :: ds => max (dpD d) (dpDs ds)
end
theorem toPys_map : ∀ ds : List Dv, toPys ds = ds.map toPy
  | [] => rfl
  | d :: ds => by rw [toPys, List.map_cons, toPys_map ds]
mutual
theorem canLay_toPy : ∀ d : Dv, isDt d = true → (toPy d).canLay0 = true
  | .non, _ => rfl
  | .bl _, _ => rfl
  | .int _, _ => rfl
  | .str x, h => by simpa [toPy, PyData.canLay0, isDt] using h
  | .lst xs, h => by
    rw [toPy, PyData.canLay0]
    exact canLay_toPys xs (by simpa [isDt] using h)
  | .rls xs, h => by
    rw [toPy, PyData.canLay0]
    exact canLay_toPys xs (by simpa [isDt] using h)
  | .tup xs, h => by
    rw [toPy, PyData.canLay0]
    exact canLay_toPys xs (by simpa [isDt] using h)
  | .cl _, h => by simp [isDt] at h
  | .dct _, h => by simp [isDt] at h
  | .dcT _, h => by simp [isDt] at h
  | .ins _ _, h => by simp [isDt] at h
theorem canLay_toPys : ∀ ds : List Dv, isDts ds = true → PyData.canLayAll0 (toPys ds) = true
  | [], _ => rfl
  | d :: ds, h => by
    rw [isDts, Bool.and_eq_true] at h
    rw [toPys, PyData.canLayAll0, canLay_toPy d h.1, canLay_toPys ds h.2]; rfl
end
mutual
theorem depth_toPy : ∀ d : Dv, (toPy d).depth = dpD d
  | .non => rfl
  | .bl _ => rfl
  | .int _ => rfl
  | .str x => rfl
  | .lst xs => by rw [toPy, dpD, PyData.depth, depth_toPys xs]
  | .rls xs => by rw [toPy, dpD, PyData.depth, depth_toPys xs]
  | .tup xs => by rw [toPy, dpD, PyData.depth, depth_toPys xs]
  | .cl _ => rfl
  | .dct _ => rfl
  | .dcT _ => rfl
  | .ins _ _ => rfl
theorem depth_toPys : ∀ ds : List Dv, PyData.depthAll (toPys ds) = dpDs ds
  | [] => rfl
  | d :: ds => by rw [toPys, dpDs, PyData.depthAll, depth_toPy d, depth_toPys ds]
end
def eqable (d : Dv) : Bool := isDt d && decide (dpD d ≤ 60)
theorem shaped_toPy {d : Dv} (h : eqable d = true) : SeqAt.shaped (toPy d) = true := by
  unfold eqable at h
  rw [Bool.and_eq_true] at h
  unfold SeqAt.shaped
  rw [canLay_toPy d h.1, depth_toPy, decide_eq_true (Nat.le_trans (of_decide_eq_true h.2) (by decide : 60 ≤ 64))]
  rfl
section
variable {K : PySem.W.Frag} {F H : Hp}
theorem Rep.dp (e : Ext F H) {d : Dv} {v : V} (h : Rep K F d v) : isDt d = true → Dp K H v (toPy d) :=
  Rep.rec (motive_1 := fun d v _ => isDt d = true → Dp K H v (toPy d)) (motive_2 := fun ds vs _ => isDts ds = true → DpAll K H vs (toPys ds))
    (fun _ => .non) (fun b _ => .bl b) (fun i _ => .int i) (fun x _ => .str x) (fun v h => by simp [isDt] at h)
    (fun h _ ih k => by rw [toPy]; exact .lst (SqL.of (e _ _ h)) (ih (by simpa [isDt] using k)))
    (fun h _ ih k => by rw [toPy]; exact .lst (SqL.ext e h) (ih (by simpa [isDt] using k)))
    (fun h _ ih k => by rw [toPy]; exact .tup (SqT.ext e h) (ih (by simpa [isDt] using k)))
    (fun _ _ _ _ k => by simp [isDt] at k) (fun _ _ _ _ k => by simp [isDt] at k) (fun _ _ _ _ k => by simp [isDt] at k)
    (fun _ => .nil) (fun _ _ a b k => by
      rw [isDts, Bool.and_eq_true] at k
      rw [toPys]
      exact .cons (a k.1) (b k.2)) h
theorem Reps.dp (e : Ext F H) : ∀ {ds : List Dv} {vs : List V}, Reps K F ds vs → isDts ds = true → DpAll K H vs (toPys ds)
  | _, _, .nil, _ => .nil
  | _, _, .cons a b, k => by
    rw [isDts, Bool.and_eq_true] at k
    rw [toPys]
    exact .cons (a.dp e k.1) (b.dp e k.2)
theorem Top.dp (e : Ext F H) {d : Dv} {v : V} (h : Top K F H d v) (k : isDt d = true) : Dp K H v (toPy d) := by
  rcases h with h | ⟨p, o, rfl, ho, h⟩
  · exact h.dp e k
  · cases h with
    | lst h => rw [toPy]; exact .lst (SqL.of ho) (h.dp e (by simpa [isDt] using k))
    | dct _ _ => simp [isDt] at k
    | dcT _ _ => simp [isDt] at k
    | ins _ _ => simp [isDt] at k
end

/-! ### flat things -/
def flatD : Dv → Bool
  | .non => true
  | .bl _ => true
  | .int _ => true
  | .str _ => true
  | _ => false
/-- == of flat things -/
def eqD : Dv → Dv → Bool
  | .non, .non => true
  | .bl a, .bl b => a == b
  | .bl a, .int b => (if a then 1 else 0) == b
  | .int a, .bl b => a == (if b then 1 else 0)
  | .int a, .int b => a == b
  | .str a, .str b => a == b
  | _, _ => false
section
variable {K : PySem.W.Frag} {F : Hp}
theorem Rep.flat {d : Dv} {v : V} (h : Rep K F d v) (f : flatD d = true) : flatV v = true := by
  cases h <;> first | rfl | (simp [flatD] at f)
theorem Rep.eqF {d e : Dv} {v u : V} (h : Rep K F d v) (k : Rep K F e u) (f : flatD d = true) (f' : flatD e = true) : eqV v u = eqD d e := by
  cases h <;> first | (simp [flatD] at f; done) | (cases k <;> first | rfl | (simp [flatD] at f'; done))
theorem Reps.flat : ∀ {ds : List Dv} {vs : List V}, Reps K F ds vs → ds.all flatD = true → vs.all flatV = true
  | _, _, .nil, _ => rfl
  | _, _, .cons a b, k => by
    rw [List.all_cons, Bool.and_eq_true] at k ⊢
    exact ⟨a.flat k.1, b.flat k.2⟩
theorem Reps.inV {e : Dv} {u : V} (k : Rep K F e u) (f' : flatD e = true) : ∀ {ds : List Dv} {vs : List V}, Reps K F ds vs → ds.all flatD = true → L2.inV u vs = ds.any fun d => eqD d e
  | _, _, .nil, _ => rfl
  | _, _, .cons a b, f => by
    rw [List.all_cons, Bool.and_eq_true] at f
    unfold L2.inV
    rw [List.any_cons, List.any_cons, a.eqF k f.1 f']
    rw [show (List.any _ fun y => eqV y u) = L2.inV u _ from rfl, Reps.inV k f' b f.2]
theorem Top.flat {H : Hp} {d : Dv} {v : V} (h : Top K F H d v) (f : flatD d = true) : Rep K F d v := by
  rcases h with h | ⟨p, o, rfl, ho, h⟩
  · exact h
  · cases h <;> simp [flatD] at f
end

section
variable {X : Cx}
/-! ### + - * // % ** -/
def pAdd : Dv → Dv → M RV
  | .int i, .int j => pure (.d (.int (i + j)))
  | .lst xs, .lst ys => do
    M.grd (xs.length + ys.length ≤ sizeLine)
    pure (.fr (.lst (xs ++ ys)))
  | .str x, .str y => do
    M.grd (x.length + y.length ≤ sizeLine)
    pure (.d (.str (x ++ y)))
  | .tup xs, .tup ys => do
    M.grd (xs ≠ [] ∧ ys ≠ [] ∧ xs.length + ys.length ≤ sizeLine)
    pure (.d (.tup (xs ++ ys)))
  | _, _ => M.bad
def rPlus (K : PySem.W.Frag) : R2 := fun x y H Q => (rI0 fun i j => V.int (i + j)) x y H Q ∨ rCat x y H Q ∨ (∃ i j, x = .str i ∧ y = .str j ∧ i.length + j.length ≤ sizeLine ∧ Q (.str (i ++ j)) H) ∨ rCatT K x y H Q
theorem op_plus : OpR X (binaryOp .Add) (rPlus X.K) := op_add.or (op_cat.or (op_add_str.or op_catT))
section
variable {g : Gx} {F H : Hp} {ρ : VE} {σ : L2.St} {Q : VK} {xs : List Dv} {vs : List V} {p : Addr}
theorem newLst (rel : Rel X.K g F ρ σ H) (h : Reps X.K F xs vs) (z : okE X g F σ Q (.fr (.lst xs)) ρ) (hp : H p = none) : Q (.ref p) (upd H p (.lst vs)) := z (.ref p) F _ (Ext.refl F) (rel.alloc hp) (rel.fresh hp (.lst h))
theorem newTup (rel : Rel X.K g F ρ σ H) (h : Reps X.K F xs vs) (z : okE X g F σ Q (.d (.tup xs)) ρ) (hp : H p = none) : Q (.ref p) (upd H p (.tup vs)) :=
  z (.ref p) _ _ (ext_upd (rel.ext.none hp)) ((rel.allocH hp).freeze (rel.freeH0 hp) (rel.noHeld hp)) (.tup (SqT.of upd_same) (h.mono (ext_upd (rel.ext.none hp))))
end
theorem Reps.ne_nil {K : PySem.W.Frag} {F : Hp} {ds : List Dv} {vs : List V} (h : Reps K F ds vs) (n : ds ≠ []) : vs ≠ [] := by
  cases h with
  | nil => exact absurd rfl n
  | cons a b => intro z; cases z
theorem p_add : P2 X (rPlus X.K) pAdd := by
  intro g F ρ σ H x y dx dy Q W rel tx ty z
  have K : (rI0 fun i j => V.int (i + j)) x y H Q ∨ rCat x y H Q ∨ (∃ i j, x = .str i ∧ y = .str j ∧ i.length + j.length ≤ sizeLine ∧ Q (.str (i ++ j)) H) ∨ rCatT X.K x y H Q := by
    unfold pAdd at z
    split at z
    · exact .inl ⟨_, _, tx.int, ty.int, z _ F H (Ext.refl F) rel (.int _)⟩
    · rw [RP_bnd] at z
      obtain ⟨hl, z⟩ := RP_grd z
      obtain ⟨a, vs, rfl, h1, h2⟩ := tx.lst rel.ext
      obtain ⟨b, us, rfl, k1, k2⟩ := ty.lst rel.ext
      exact .inr (.inl ⟨a, b, vs, us, rfl, rfl, h1, k1, by rw [← h2.length, ← k2.length]; exact hl, fun p hp => newLst rel (h2.append k2) z hp⟩)
    · rw [RP_bnd] at z
      obtain ⟨hl, z⟩ := RP_grd z
      exact .inr (.inr (.inl ⟨_, _, tx.str, ty.str, hl, z _ F H (Ext.refl F) rel (.str _)⟩))
    · rw [RP_bnd] at z
      obtain ⟨⟨n1, n2, hl⟩, z⟩ := RP_grd z
      obtain ⟨a, vs, rfl, h1, h2⟩ := tx.tup rel.ext
      obtain ⟨b, us, rfl, k1, k2⟩ := ty.tup rel.ext
      exact .inr (.inr (.inr ⟨a, b, vs, us, rfl, rfl, h1, k1, h2.ne_nil n1, by rw [← h2.length, ← k2.length]; exact hl, fun q => absurd q (k2.ne_nil n2), fun _ p hp => newTup rel (h2.append k2) z hp⟩))
    · exact z.elim
  exact K
def pSub : Dv → Dv → M RV
  | .int i, .int j => pure (.d (.int (i - j)))
  | _, _ => M.bad
theorem p_sub : P2 X (rI0 fun i j => .int (i - j)) pSub := by
  intro g F ρ σ H x y dx dy Q W rel tx ty z
  unfold pSub at z
  split at z
  · exact ⟨_, _, tx.int, ty.int, z _ F H (Ext.refl F) rel (.int _)⟩
  · exact z.elim
instance {i j : Int} : Decidable (CMulW i j) := by unfold CMulW; infer_instance
instance {i j : Int} : Decidable (CDivW i j) := by unfold CDivW; infer_instance
instance {i j : Int} : Decidable (CPow i j) := by unfold CPow; infer_instance
def pMul : Dv → Dv → M RV
  | .int i, .int j => do
    M.grd (CMulW i j)
    pure (.d (.int (i * j)))
  | .lst xs, .int k => do
    M.grd (-(2 ^ 63) ≤ k ∧ k < 2 ^ 63 ∧ xs.length * k.toNat ≤ sizeLine)
    pure (.fr (.lst (List.replicate k.toNat xs).flatten))
  | _, _ => M.bad
def rTimes : R2 := fun x y H Q => (rI CMulW fun i j => V.int (i * j)) x y H Q ∨ rRep x y H Q
theorem op_times : OpR X (binaryOp .Mult) rTimes := op_mulW.or op_rep
theorem p_mul : P2 X rTimes pMul := by
  intro g F ρ σ H x y dx dy Q W rel tx ty z
  have K : (rI CMulW fun i j => V.int (i * j)) x y H Q ∨ rRep x y H Q := by
    unfold pMul at z
    split at z
    · rw [RP_bnd] at z
      obtain ⟨hl, z⟩ := RP_grd z
      exact .inl ⟨_, _, tx.int, ty.int, hl, z _ F H (Ext.refl F) rel (.int _)⟩
    · rw [RP_bnd] at z
      obtain ⟨⟨n1, n2, hl⟩, z⟩ := RP_grd z
      obtain ⟨a, vs, rfl, h1, h2⟩ := tx.lst rel.ext
      exact .inr ⟨a, _, vs, rfl, ty.int, h1, n1, n2, by rw [← h2.length]; exact hl, fun p hp => newLst rel (h2.rep _) z hp⟩
    · exact z.elim
  exact K
def pDiv : Dv → Dv → M RV
  | .int i, .int j => do
    M.grd (CDivW i j)
    pure (.d (.int (i / j)))
  | _, _ => M.bad
theorem p_div : P2 X (rI CDivW fun i j => .int (i / j)) pDiv := by
  intro g F ρ σ H x y dx dy Q W rel tx ty z
  unfold pDiv at z
  split at z
  · rw [RP_bnd] at z
    obtain ⟨hl, z⟩ := RP_grd z
    exact ⟨_, _, tx.int, ty.int, hl, z _ F H (Ext.refl F) rel (.int _)⟩
  · exact z.elim
def pMod : Dv → Dv → M RV
  | .int i, .int j => do
    M.grd (0 < j)
    pure (.d (.int (i % j)))
  | _, _ => M.bad
theorem p_mod : P2 X (rI (fun _ j => 0 < j) fun i j => .int (i % j)) pMod := by
  intro g F ρ σ H x y dx dy Q W rel tx ty z
  unfold pMod at z
  split at z
  · rw [RP_bnd] at z
    obtain ⟨hl, z⟩ := RP_grd z
    exact ⟨_, _, tx.int, ty.int, hl, z _ F H (Ext.refl F) rel (.int _)⟩
  · exact z.elim
def pPow : Dv → Dv → M RV
  | .int i, .int j => do
    M.grd (CPow i j)
    pure (.d (.int (i ^ j.toNat)))
  | _, _ => M.bad
theorem p_pow : P2 X (rI CPow fun i j => .int (i ^ j.toNat)) pPow := by
  intro g F ρ σ H x y dx dy Q W rel tx ty z
  unfold pPow at z
  split at z
  · rw [RP_bnd] at z
    obtain ⟨hl, z⟩ := RP_grd z
    exact ⟨_, _, tx.int, ty.int, hl, z _ F H (Ext.refl F) rel (.int _)⟩
  · exact z.elim

/-! ### comparisons -/
def pOrd (f : Int → Int → Bool) : Dv → Dv → M RV
  | .int i, .int j => pure (.d (.bl (f i j)))
  | _, _ => M.bad
theorem p_ord {f : Int → Int → Bool} : P2 X (rI0 fun i j => .bl (f i j)) (pOrd f) := by
  intro g F ρ σ H x y dx dy Q W rel tx ty z
  unfold pOrd at z
  split at z
  · exact ⟨_, _, tx.int, ty.int, z _ F H (Ext.refl F) rel (.bl _)⟩
  · exact z.elim
/-- == -/
def pEqB : Dv → Dv → M Bool
  | .int i, .int j => pure (decide (i = j))
  | .str i, .str j => pure (decide (i = j))
  | .bl i, .bl j => pure (decide (i = j))
  | d, e => do
    M.grd (eqable d = true ∧ eqable e = true)
    pure (PyData.eqv (toPy d) (toPy e))
def pEq (d e : Dv) : M RV := do
  let b ← pEqB d e
  pure (.d (.bl b))
def pNe (d e : Dv) : M RV := do
  let b ← pEqB d e
  pure (.d (.bl (!b)))
theorem pEqB_ok {K : PySem.W.Frag} {g : Gx} {F : Hp} {ρ : VE} {σ : L2.St} {H : Hp} {x y : V} {dx dy : Dv} {ok : Bool → VE → Prop} {ex : Er → VE → Prop} (rel : Rel K g F ρ σ H) (tx : Top K F H dx x) (ty : Top K F H dy y) (z : RP (pEqB dx dy ρ) ok ex) :
    (∃ b, scal x y = true ∧ b = decide (x = y) ∧ ok b ρ) ∨ ∃ d e, Dp K H x d ∧ Dp K H y e ∧ SeqAt.shaped d = true ∧ SeqAt.shaped e = true ∧ ok (PyData.eqv d e) ρ := by
  unfold pEqB at z
  split at z
  · obtain rfl := tx.int
    obtain rfl := ty.int
    refine .inl ⟨_, rfl, ?_, z⟩
    exact decide_eq_decide.mpr ⟨fun h => by rw [h], fun h => V.int.inj h⟩
  · obtain rfl := tx.str
    obtain rfl := ty.str
    refine .inl ⟨_, rfl, ?_, z⟩
    exact decide_eq_decide.mpr ⟨fun h => by rw [h], fun h => V.str.inj h⟩
  · obtain rfl := tx.bl
    obtain rfl := ty.bl
    refine .inl ⟨_, rfl, ?_, z⟩
    exact decide_eq_decide.mpr ⟨fun h => by rw [h], fun h => V.bl.inj h⟩
  · rw [RP_bnd] at z
    obtain ⟨⟨h1, h2⟩, z⟩ := RP_grd z
    have i1 : isDt dx = true := by unfold eqable at h1; rw [Bool.and_eq_true] at h1; exact h1.1
    have i2 : isDt dy = true := by unfold eqable at h2; rw [Bool.and_eq_true] at h2; exact h2.1
    exact .inr ⟨_, _, tx.dp rel.ext i1, ty.dp rel.ext i2, shaped_toPy h1, shaped_toPy h2, z⟩
theorem op_equ (hu : X.A.units + 64 < cLine) : OpR X (compareOp .Eq) (fun x y H Q => rEq x y H Q ∨ rEqD X.K x y H Q) := op_eq.or (op_eqD hu)
theorem op_neq (hu : X.A.units + 64 < cLine) : OpR X (compareOp .NotEq) (fun x y H Q => rNe x y H Q ∨ rNeD X.K x y H Q) := op_ne.or (op_neD hu)
theorem p_eq : P2 X (fun x y H Q => rEq x y H Q ∨ rEqD X.K x y H Q) pEq := by
  intro g F ρ σ H x y dx dy Q W rel tx ty z
  unfold pEq at z
  rw [RP_bnd] at z
  rcases pEqB_ok rel tx ty z with ⟨b, h1, rfl, h3⟩ | ⟨d, e, h1, h2, h3, h4, h5⟩
  · exact .inl ⟨h1, h3 _ F H (Ext.refl F) rel (.bl _)⟩
  · exact .inr ⟨d, e, h1, h2, h3, h4, h5 _ F H (Ext.refl F) rel (.bl _)⟩
theorem p_ne : P2 X (fun x y H Q => rNe x y H Q ∨ rNeD X.K x y H Q) pNe := by
  intro g F ρ σ H x y dx dy Q W rel tx ty z
  unfold pNe at z
  rw [RP_bnd] at z
  rcases pEqB_ok rel tx ty z with ⟨b, h1, rfl, h3⟩ | ⟨d, e, h1, h2, h3, h4, h5⟩
  · exact .inl ⟨h1, h3 _ F H (Ext.refl F) rel (.bl _)⟩
  · exact .inr ⟨d, e, h1, h2, h3, h4, h5 _ F H (Ext.refl F) rel (.bl _)⟩
/-- is None -/
def pIsN (n : Bool) : Dv → Dv → M RV
  | .non, .non => pure (.d (.bl (!n)))
  | .cl _, _ => M.bad
  | _, .non => pure (.d (.bl n))
  | _, _ => M.bad
theorem notNon {K : PySem.W.Frag} {F H : Hp} {d : Dv} {v : V} (h : Top K F H d v) (n : d ≠ .non) (n2 : ∀ u, d ≠ .cl u) : decide (v = .non) = false := by
  refine decide_eq_false fun e => ?_
  subst e
  rcases h with h | ⟨p, o, e, _⟩
  · cases h with
    | non => exact n rfl
    | cl => exact n2 _ rfl
  · cases e
theorem p_isN : P2 X (fun x y H Q => y = .non ∧ Q (.bl (decide (x = .non))) H) (pIsN false) := by
  intro g F ρ σ H x y dx dy Q W rel tx ty z
  unfold pIsN at z
  split at z
  · obtain rfl := tx.non
    exact ⟨ty.non, z _ F H (Ext.refl F) rel (.bl _)⟩
  · exact z.elim
  · rename_i n1 n2
    refine ⟨ty.non, ?_⟩
    rw [notNon tx n1 n2]
    exact z _ F H (Ext.refl F) rel (.bl _)
  · exact z.elim
theorem p_notN : P2 X (fun x y H Q => y = .non ∧ Q (.bl (!decide (x = .non))) H) (pIsN true) := by
  intro g F ρ σ H x y dx dy Q W rel tx ty z
  unfold pIsN at z
  split at z
  · obtain rfl := tx.non
    exact ⟨ty.non, z _ F H (Ext.refl F) rel (.bl _)⟩
  · exact z.elim
  · rename_i n1 n2
    refine ⟨ty.non, ?_⟩
    rw [notNon tx n1 n2]
    exact z _ F H (Ext.refl F) rel (.bl _)
  · exact z.elim
/-! ### in -/
def key? : Dv → Option Key
  | .int i => some (.inl i)
  | .str x => some (.inr x)
  | _ => none
theorem key_V {K : PySem.W.Frag} {F H : Hp} {d : Dv} {v : V} {k : Key} (h : Top K F H d v) (e : key? d = some k) : v = kV k := by
  cases d with
  | int i => cases e; exact h.int
  | str x => cases e; exact h.str
  | _ => cases e
def pInB : Dv → Dv → M Bool
  | x, .dct kvs => do
    let k ← M.opt (key? x)
    pure (valD kvs k).isSome
  | .str x, .str y => do
    M.grd (x.length = 1)
    pure (decide (x.cps.getD 0 0 ∈ y.cps.toList))
  | x, y => do
    let ys ← M.opt (items? y)
    M.grd (flatD x = true ∧ ys.all flatD = true)
    pure (ys.any fun d => eqD d x)
def pIn (n : Bool) (d e : Dv) : M RV := do
  let b ← pInB d e
  pure (.d (.bl (if n then !b else b)))
theorem op_in_dct (hu : X.A.units + 1 < cLine) : OpR X (compareOp .In) (fun y x H Q => ∃ a o, x = .ref a ∧ DGet H a y o ∧ Q (.bl o.isSome) H) := by
  intro pins s σ H y x u v Q I ry rx ⟨a, o, e, gt, q⟩
  subst e
  obtain rfl : v = .ref a := rx
  exact d_in hu I gt ry fun s' I' => ⟨V.bl _, H, I', rfl, q⟩
theorem op_notIn_dct (hu : X.A.units + 1 < cLine) : OpR X (compareOp .NotIn) (fun y x H Q => ∃ a o, x = .ref a ∧ DGet H a y o ∧ Q (.bl (!o.isSome)) H) := by
  intro pins s σ H y x u v Q I ry rx ⟨a, o, e, gt, q⟩
  subst e
  obtain rfl : v = .ref a := rx
  exact d_notIn hu I gt ry fun s' I' => ⟨V.bl _, H, I', rfl, q⟩
def rInS : R2 := fun x y H Q => ∃ (c : Nat) (z : Str), x = .str ⟨#[c]⟩ ∧ y = .str z ∧ Q (.bl (decide (c ∈ z.cps.toList))) H
def rNotInS : R2 := fun x y H Q => ∃ (c : Nat) (z : Str), x = .str ⟨#[c]⟩ ∧ y = .str z ∧ Q (.bl (!decide (c ∈ z.cps.toList))) H
def rInD : R2 := fun y x H Q => ∃ a o, x = .ref a ∧ DGet H a y o ∧ Q (.bl o.isSome) H
def rNotInD : R2 := fun y x H Q => ∃ a o, x = .ref a ∧ DGet H a y o ∧ Q (.bl (!o.isSome)) H
theorem op_inA (hu : X.A.units + 1 < cLine) : OpR X (compareOp .In) (fun x y H Q => rIn X.K false x y H Q ∨ rInD x y H Q ∨ rInS x y H Q) := op_in_seq.or ((op_in_dct hu).or op_in_sign)
theorem op_notInA (hu : X.A.units + 1 < cLine) : OpR X (compareOp .NotIn) (fun x y H Q => rIn X.K true x y H Q ∨ rNotInD x y H Q ∨ rNotInS x y H Q) := op_notIn_seq.or ((op_notIn_dct hu).or op_notIn_sign)
theorem one_sign {x : Str} (h : x.length = 1) : x = ⟨#[x.cps.getD 0 0]⟩ := by
  obtain ⟨⟨l⟩⟩ := x
  cases l with
  | nil => cases h
  | cons a t =>
    cases t with
    | nil => rfl
    | cons b t => simp [PySem.Str.length] at h
theorem pInB_ok {K : PySem.W.Frag} {g : Gx} {F : Hp} {ρ : VE} {σ : L2.St} {H : Hp} {x y : V} {dx dy : Dv} {ok : Bool → VE → Prop} {ex : Er → VE → Prop} (rel : Rel K g F ρ σ H) (tx : Top K F H dx x) (ty : Top K F H dy y) (z : RP (pInB dx dy ρ) ok ex) :
    (∃ p xs, y = .ref p ∧ (SqL K H p xs ∨ SqT K H p xs) ∧ flatV x = true ∧ xs.all flatV = true ∧ ok (L2.inV x xs) ρ) ∨ (∃ a o, y = .ref a ∧ DGet H a x o ∧ ok o.isSome ρ) ∨ ∃ (c : Nat) (z : Str), x = .str ⟨#[c]⟩ ∧ y = .str z ∧ ok (decide (c ∈ z.cps.toList)) ρ := by
  unfold pInB at z
  split at z
  · obtain ⟨a, qs, rfl, h1, h2⟩ := ty.dct rel.ext
    rw [RP_bnd] at z
    obtain ⟨k, hk, z⟩ := RP_opt z
    obtain rfl := key_V tx hk
    refine .inr (.inl ⟨a, valV qs k, rfl, DGet.k h1, ?_⟩)
    rcases h2.val k with ⟨e1, e2⟩ | ⟨d, v, e1, e2, _⟩
    · rw [e1] at z; rw [e2]; exact z
    · rw [e1] at z; rw [e2]; exact z
  · rw [RP_bnd] at z
    obtain ⟨h1, z⟩ := RP_grd z
    obtain rfl := tx.str
    obtain rfl := ty.str
    exact .inr (.inr ⟨_, _, congrArg V.str (one_sign h1), rfl, z⟩)
  · rw [RP_bnd] at z
    obtain ⟨ys, hy, z⟩ := RP_opt z
    rw [RP_bnd] at z
    obtain ⟨⟨h1, h2⟩, z⟩ := RP_grd z
    obtain ⟨a, vs, rfl, k1, k2⟩ := ty.seq rel.ext hy
    have rx := tx.flat h1
    exact .inl ⟨a, vs, rfl, k1, rx.flat h1, k2.flat h2, by rw [Reps.inV rx h1 k2 h2]; exact z⟩
theorem p_in : P2 X (fun x y H Q => rIn X.K false x y H Q ∨ rInD x y H Q ∨ rInS x y H Q) (pIn false) := by
  intro g F ρ σ H x y dx dy Q W rel tx ty z
  unfold pIn at z
  rw [RP_bnd] at z
  rcases pInB_ok rel tx ty z with ⟨p, xs, h1, h2, h3, h4, h5⟩ | ⟨a, o, h1, h2, h3⟩ | ⟨c, s, h1, h2, h3⟩
  · exact .inl ⟨p, xs, h1, h2, h3, h4, h5 _ F H (Ext.refl F) rel (.bl _)⟩
  · exact .inr (.inl ⟨a, o, h1, h2, h3 _ F H (Ext.refl F) rel (.bl _)⟩)
  · exact .inr (.inr ⟨c, s, h1, h2, h3 _ F H (Ext.refl F) rel (.bl _)⟩)
theorem p_notIn : P2 X (fun x y H Q => rIn X.K true x y H Q ∨ rNotInD x y H Q ∨ rNotInS x y H Q) (pIn true) := by
  intro g F ρ σ H x y dx dy Q W rel tx ty z
  unfold pIn at z
  rw [RP_bnd] at z
  rcases pInB_ok rel tx ty z with ⟨p, xs, h1, h2, h3, h4, h5⟩ | ⟨a, o, h1, h2, h3⟩ | ⟨c, s, h1, h2, h3⟩
  · exact .inl ⟨p, xs, h1, h2, h3, h4, h5 _ F H (Ext.refl F) rel (.bl _)⟩
  · exact .inr (.inl ⟨a, o, h1, h2, h3 _ F H (Ext.refl F) rel (.bl _)⟩)
  · exact .inr (.inr ⟨c, s, h1, h2, h3 _ F H (Ext.refl F) rel (.bl _)⟩)
/-! ### a[i] -/
def pIx : Dv → Dv → M RV
  | .str x, .int i => do
    let c ← M.opt (atI x.cps.toList i)
    M.grd (x.length ≤ sizeLine)
    pure (.d (.str ⟨#[c]⟩))
  | d, .int i => do
    let xs ← M.opt (items? d)
    let v ← M.opt (atI xs i)
    pure (.d v)
  | _, _ => M.bad
theorem Reps.atI {K : PySem.W.Frag} {F : Hp} {ds : List Dv} {vs : List V} {i : Int} {d : Dv} (h : Reps K F ds vs) (e : L2.atI ds i = some d) : ∃ v, L2.atI vs i = some v ∧ Rep K F d v := by
  unfold L2.atI at e ⊢
  rw [h.length] at e
  cases q : ixN vs.length i with
  | none => rw [q] at e; cases e
  | some j =>
    rw [q] at e
    obtain ⟨v, h1, h2⟩ := h.get (i := j) e
    exact ⟨v, h1, h2⟩
theorem p_ix : P2 X (rIx X.K) pIx := by
  intro g F ρ σ H x y dx dy Q W rel tx ty z
  unfold pIx at z
  split at z
  · rw [RP_bnd] at z
    obtain ⟨c, hc, z⟩ := RP_opt z
    rw [RP_bnd] at z
    obtain ⟨h1, z⟩ := RP_grd z
    exact .inr (.inr ⟨_, _, c, tx.str, ty.int, h1, hc, z _ F H (Ext.refl F) rel (.str _)⟩)
  · rw [RP_bnd] at z
    obtain ⟨xs, hx, z⟩ := RP_opt z
    rw [RP_bnd] at z
    obtain ⟨v, hv, z⟩ := RP_opt z
    obtain ⟨a, vs, rfl, k1, k2⟩ := tx.seq rel.ext hx
    obtain ⟨u, h1, h2⟩ := k2.atI hv
    rcases k1 with k1 | k1
    · exact .inl ⟨a, vs, _, u, rfl, ty.int, k1, h1, z _ F H (Ext.refl F) rel h2⟩
    · exact .inr (.inl ⟨a, vs, _, u, rfl, ty.int, k1, h1, z _ F H (Ext.refl F) rel h2⟩)
  · exact z.elim
/-- d[k] of a dict -/
def pDx : Dv → Dv → M RV
  | .dct kvs, x => do
    let k ← M.opt (key? x)
    let v ← M.opt (valD kvs k)
    pure (.d v)
  | _, _ => M.bad
theorem se_dx {W : Wh} {a b : Expr} {pos : Pos} {ma mb : M AV} (hu : X.A.units + 1 < cLine) (ha : SF X W a ma) (hb : SF X W b mb) (hs : L2.NoSl b) : SE X W (.Subscript a b pos) (b2 pDx ma mb) := by
  have hp : P2 X (fun x y H Q => ∃ a v, x = .ref a ∧ DGet H a y (some v) ∧ Q v H) pDx := by
    intro g F ρ σ H x y dx dy Q W rel tx ty z
    unfold pDx at z
    split at z
    · rw [RP_bnd] at z
      obtain ⟨k, hk, z⟩ := RP_opt z
      rw [RP_bnd] at z
      obtain ⟨v, hv, z⟩ := RP_opt z
      obtain ⟨a, qs, rfl, h1, h2⟩ := tx.dct rel.ext
      obtain rfl := key_V ty hk
      rcases h2.val k with ⟨e1, e2⟩ | ⟨d, u, e1, e2, e3⟩
      · rw [hv] at e1; cases e1
      · rw [hv] at e1; cases e1
        exact ⟨a, u, rfl, by rw [← e2]; exact DGet.k h1, z _ F H (Ext.refl F) rel e3⟩
    · exact z.elim
  obtain ⟨ta, tb, pa, pb, q⟩ := s2 hp ha hb
  exact ⟨_, pe_dget hu pa pb hs, q⟩
/-! ### slices -/
def rSlA (K : PySem.W.Frag) : V → Option Int → Option Int → Hp → VK → Prop := fun x lo hi H Q => rSlL K x lo hi H Q ∨ rSlT K x lo hi H Q ∨ rSlS x lo hi H Q
theorem sl_any : SlR X (rSlA X.K) := sl_list.or (sl_tup.or sl_str)
theorem se_slice {W : Wh} {a : Expr} {lo hi : Option Expr} {pos p2 : Pos} {ma : M AV} {ml mh : M (Option Int)} (ha : SF X W a ma) (hl : SO X W lo ml) (hh : SO X W hi mh) : SE X W (.Subscript a (.Slice lo hi none p2) pos) (eSl ma ml mh) := by
  obtain ⟨ta, pa, qa⟩ := ha.ex
  obtain ⟨tl, pl, ql⟩ := hl.ex
  obtain ⟨th, ph, qh⟩ := hh.ex
  refine ⟨_, pe_slice sl_any pa pl ph, fun g hw F ρ σ H Q rel z => ?_⟩
  unfold eSl at z
  rw [RP_bnd] at z
  refine qa g hw F ρ σ H _ rel (z.imp (fun x ρ1 z1 => ?_) fun _ _ k => k)
  intro v F1 H1 e1 rel1 ok1
  rw [RP_bnd] at z1
  refine ql g hw F1 ρ1 σ H1 _ rel1 (z1.imp (fun o ρ2 z2 => ?_) fun _ _ k => k.ext e1)
  intro F2 H2 e2 rel2
  rw [RP_bnd] at z2
  refine qh g hw F2 ρ2 σ H2 _ rel2 (z2.imp (fun o' ρ3 z3 => ?_) fun _ _ k => k.ext (e1.trans e2))
  intro F3 H3 e3 rel3
  rw [RP_bnd] at z3
  obtain ⟨d, t, z4⟩ := con_ok rel3 ((ok1.mono e2).mono e3) z3
  have E := (e1.trans e2).trans e3
  unfold pSl at z4
  split at z4
  · obtain ⟨a, vs, rfl, h1, h2⟩ := t.lst rel3.ext
    exact .inl ⟨a, vs, rfl, SqL.of h1, fun p hp => newLst rel3 (h2.cut o o') (z4.ext E) hp⟩
  · obtain ⟨a, vs, rfl, h1, h2⟩ := t.rls rel3.ext
    exact .inl ⟨a, vs, rfl, h1, fun p hp => newLst rel3 (h2.cut o o') (z4.ext E) hp⟩
  · rw [RP_bnd] at z4
    obtain ⟨hw, z5⟩ := RP_grd z4
    obtain ⟨a, vs, rfl, h1, h2⟩ := t.tup rel3.ext
    exact .inr (.inl ⟨a, vs, rfl, h1, by rw [← h2.length]; exact hw, fun p hp => newTup rel3 (h2.cut o o') (z5.ext E) hp⟩)
  · rw [RP_bnd] at z4
    obtain ⟨hw, z5⟩ := RP_grd z4
    exact .inr (.inr ⟨_, t.str, hw, z5 _ F3 H3 E rel3 (.str _)⟩)
  · exact z4.elim
end
end P0
end
section
set_option Elab.async false
set_option linter.all false
set_option maxRecDepth 100000
set_option maxHeartbeats 4000000
/-! P0, calls: built-ins, methods, own defs. -/
namespace P0
open PySem PySem.Spec L2
open PyProof.Rows hiding St

section
variable {X : Cx} {W : Wh} {a b c e : Expr} {es : List Expr} {pos p : Pos} {x : Str}
/-! ### built-ins by name -/
def eB (q : List Dv → M RV) (ma : M (List AV)) : M RV := do
  let as ← ma
  let ds ← conL as
  q ds
def PL (X : Cx) (r : List V → Hp → VK → Prop) (q : List Dv → M RV) : Prop := ∀ (g : Gx) (F : Hp) (ρ : VE) (σ : L2.St) (H : Hp) (vs : List V) (ds : List Dv) (Q : VK) (W : Wh), Rel X.K g F ρ σ H → Paired (Top X.K F H) ds vs → RP (q ds ρ) (okE X g F σ Q) (exE X g F W) → r vs H Q
theorem sL {r : List V → Hp → VK → Prop} {q : List Dv → M RV} {ma : M (List AV)} (hp : PL X r q) (ha : SA X W es ma) : ∃ t, PA X es t ∧ ∀ g, W.p g → ∀ F ρ σ H Q, Rel X.K g F ρ σ H → RP (eB q ma ρ) (okE X g F σ Q) (exE X g F W) → tCB r t σ H Q := by
  obtain ⟨t, pt, qt⟩ := ha.ex
  refine ⟨t, pt, fun g hw F ρ σ H Q rel z => ?_⟩
  unfold eB at z
  rw [RP_bnd] at z
  refine qt g hw F ρ σ H _ rel (z.imp (fun as ρ1 z1 => ?_) fun _ _ k => k)
  intro vs F1 H1 e1 rel1 ok1
  rw [RP_bnd] at z1
  obtain ⟨ds, h1, z2⟩ := conL_ok rel1 ok1 z1
  exact hp g F1 ρ1 σ H1 vs ds Q W rel1 h1 (z2.imp (fun _ _ k => k.ext e1) fun _ _ k => k.ext e1)
theorem se_callB {id : String} {r : List V → Hp → VK → Prop} {q : List Dv → M RV} {ma : M (List AV)} (hc : CallR X (.builtin id) r) (hp : PL X r q) (hg : Gl X x) (hm : X.mg x = none) (hv : bootBuiltins x = some (.builtin id)) (ha : SA X W (e :: es) ma)
    (hn : x ≠ "__name__" := by decide) (hdb : (x == ("__debug__" : Str)) = false := by decide) (he : starEach (e :: es) X.env = (false, eval e X.env) :: starEach es X.env := by rfl) (hpl : (backTo pos (starEach es X.env)).any (·.1) = false := by rfl) :
    SE X W (.Call (.Name x p) (e :: es) [] pos) (eB q ma) := by
  obtain ⟨t, pt, qt⟩ := sL hp ha
  exact ⟨_, pe_callB hc hg hm hv pt hn hdb he hpl, qt⟩
theorem se_callTy {id : String} {r : List V → Hp → VK → Prop} {q : List Dv → M RV} {ma : M (List AV)} (hc : CallR X (.type id) r) (hp : PL X r q) (hg : Gl X x) (hm : X.mg x = none) (hv : bootBuiltins x = some (.type id)) (ha : SA X W (e :: es) ma)
    (hn : x ≠ "__name__" := by decide) (hdb : (x == ("__debug__" : Str)) = false := by decide) (he : starEach (e :: es) X.env = (false, eval e X.env) :: starEach es X.env := by rfl) (hpl : (backTo pos (starEach es X.env)).any (·.1) = false := by rfl) :
    SE X W (.Call (.Name x p) (e :: es) [] pos) (eB q ma) := by
  obtain ⟨t, pt, qt⟩ := sL hp ha
  exact ⟨_, pe_callTy hc hg hm hv pt hn hdb he hpl, qt⟩

theorem pd1 {K : PySem.W.Frag} {F H : Hp} {d : Dv} {vs : List V} (h : Paired (Top K F H) [d] vs) : ∃ v, vs = [v] ∧ Top K F H d v := by
  cases h with
  | cons a t => cases t; exact ⟨_, rfl, a⟩
theorem pd2 {K : PySem.W.Frag} {F H : Hp} {d d' : Dv} {vs : List V} (h : Paired (Top K F H) [d, d'] vs) : ∃ v u, vs = [v, u] ∧ Top K F H d v ∧ Top K F H d' u := by
  cases h with
  | cons a t =>
    obtain ⟨u, rfl, k⟩ := pd1 t
    exact ⟨_, u, rfl, a, k⟩
/-- len -/
def qLen : List Dv → M RV
  | [.str z] => do
    M.grd (z.length ≤ sizeLine)
    pure (.d (.int z.length))
  | [.dct kvs] => pure (.d (.int kvs.length))
  | [d] => do
    let xs ← M.opt (items? d)
    pure (.d (.int xs.length))
  | _ => M.bad
def rLen (K : PySem.W.Frag) : List V → Hp → VK → Prop := fun xs H Q => (∃ x n, xs = [x] ∧ LenV K x H n ∧ Q (.int n) H) ∨ ∃ a kvs, xs = [.ref a] ∧ H a = some (.dK kvs) ∧ Q (.int kvs.length) H
theorem call_lenA : CallR X (.builtin "len") (rLen X.K) := by
  refine CallR.or call_len ?_
  intro pins s σ H xs us Q I r ⟨a, kvs, e, h, q⟩
  subst e
  obtain ⟨u, rfl, ru⟩ := vals1 r
  obtain rfl : u = .ref a := ru
  exact d_len I (.inl h) fun t s' I' => ⟨.int kvs.length, H, I', ⟨t, rfl⟩, q⟩
theorem q_len : PL X (rLen X.K) qLen := by
  intro g F ρ σ H vs ds Q W rel h z
  unfold qLen at z
  split at z
  · rw [RP_bnd] at z
    obtain ⟨hl, z⟩ := RP_grd z
    obtain ⟨v, rfl, t⟩ := pd1 h
    obtain rfl := t.str
    exact .inl ⟨_, _, rfl, ⟨hl, rfl⟩, z _ F H (Ext.refl F) rel (.int _)⟩
  · obtain ⟨v, rfl, t⟩ := pd1 h
    obtain ⟨a, qs, rfl, h1, h2⟩ := t.dct rel.ext
    refine .inr ⟨a, qs, rfl, h1, ?_⟩
    rw [← Paired.length h2]
    exact z _ F H (Ext.refl F) rel (.int _)
  · rw [RP_bnd] at z
    obtain ⟨xs, hx, z⟩ := RP_opt z
    obtain ⟨v, rfl, t⟩ := pd1 h
    obtain ⟨a, us, rfl, h1, h2⟩ := t.seq rel.ext hx
    refine .inl ⟨_, us.length, rfl, ?_, by rw [← h2.length]; exact z _ F H (Ext.refl F) rel (.int _)⟩
    rcases h1 with h1 | h1
    · exact .inl ⟨us, h1, rfl⟩
    · exact .inr ⟨us, h1, rfl⟩
  · exact z.elim
/-- abs -/
def qAbs : List Dv → M RV
  | [.int i] => pure (.d (.int (if i < 0 then -i else i)))
  | _ => M.bad
theorem q_abs : PL X (fun xs H Q => ∃ i, xs = [.int i] ∧ Q (.int (if i < 0 then -i else i)) H) qAbs := by
  intro g F ρ σ H vs ds Q W rel h z
  unfold qAbs at z
  split at z
  · obtain ⟨v, rfl, t⟩ := pd1 h
    obtain rfl := t.int
    exact ⟨_, rfl, z _ F H (Ext.refl F) rel (.int _)⟩
  · exact z.elim
/-- int -/
def qInt : List Dv → M RV
  | [.int i] => pure (.d (.int i))
  | [.bl k] => pure (.d (.int (if k then 1 else 0)))
  | _ => M.bad
theorem q_int : PL X (fun xs H Q => (∃ i, xs = [.int i] ∧ Q (.int i) H) ∨ ∃ k, xs = [.bl k] ∧ Q (.int (if k then 1 else 0)) H) qInt := by
  intro g F ρ σ H vs ds Q W rel h z
  unfold qInt at z
  split at z
  · obtain ⟨v, rfl, t⟩ := pd1 h
    obtain rfl := t.int
    exact .inl ⟨_, rfl, z _ F H (Ext.refl F) rel (.int _)⟩
  · obtain ⟨v, rfl, t⟩ := pd1 h
    obtain rfl := t.bl
    exact .inr ⟨_, rfl, z _ F H (Ext.refl F) rel (.int _)⟩
  · exact z.elim
/-- the ints of a list -/
def ints? : List Dv → Option (List Int)
  | [] => some []
  | .int i :: ds => (ints? ds).map (i :: ·)
  | _ :: _ => none
theorem ints?_map : ∀ ns : List Int, ints? (ns.map Dv.int) = some ns
  | [] => rfl
  | n :: ns => by rw [List.map_cons, ints?, ints?_map ns]; rfl
theorem ints?_eq : ∀ {ds : List Dv} {ns : List Int}, ints? ds = some ns → ds = ns.map Dv.int
  | [], ns, h => by cases h; rfl
  | .int i :: ds, ns, h => by
    rw [ints?] at h
    cases q : ints? ds with
    | none => rw [q] at h; cases h
    | some ms =>
      rw [q] at h; cases h
      rw [ints?_eq q, List.map_cons]
  | .non :: _, _, h => by cases h
  | .bl _ :: _, _, h => by cases h
  | .str _ :: _, _, h => by cases h
  | .cl _ :: _, _, h => by cases h
  | .lst _ :: _, _, h => by cases h
  | .tup _ :: _, _, h => by cases h
  | .rls _ :: _, _, h => by cases h
  | .dct _ :: _, _, h => by cases h
  | .dcT _ :: _, _, h => by cases h
  | .ins _ _ :: _, _, h => by cases h
def lmin : List Int → Int
  | [] => 0
  | x :: xs => xs.foldl (fun a y => if decide (y < a) = true then y else a) x
def lmax : List Int → Int
  | [] => 0
  | x :: xs => xs.foldl (fun a y => if decide (a < y) = true then y else a) x
def qMin : List Dv → M RV
  | [.int i, .int j] => pure (.d (.int (if j < i then j else i)))
  | [d] => do
    let xs ← M.opt (items? d)
    let ns ← M.opt (ints? xs)
    M.grd (0 < ns.length)
    pure (.d (.int (lmin ns)))
  | _ => M.bad
def qMax : List Dv → M RV
  | [.int i, .int j] => pure (.d (.int (if j > i then j else i)))
  | [d] => do
    let xs ← M.opt (items? d)
    let ns ← M.opt (ints? xs)
    M.grd (0 < ns.length)
    pure (.d (.int (lmax ns)))
  | _ => M.bad
/-- min, max of a list or tuple of ints -/
def rBest (K : PySem.W.Frag) (f : List Int → Int) : List V → Hp → VK → Prop := fun xs H Q => ∃ a ns, xs = [.ref a] ∧ (SqL K H a (ns.map V.int) ∨ SqT K H a (ns.map V.int)) ∧ 0 < ns.length ∧ Q (.int (f ns)) H
theorem holdInts {h : Heap} : ∀ {ns : List Int} {us : List Value}, Vals (ns.map V.int) us → PySem.W.HoldAll h us ns
  | [], _, r => by rw [List.map_nil] at r; cases r; exact PySem.W.HoldAll.nil
  | n :: ns, _, r => by
    rw [List.map_cons] at r
    cases r with
    | cons a t =>
      obtain ⟨k, rfl⟩ := a
      exact PySem.W.HoldAll.cons ⟨_, Reads.int n k⟩ (holdInts t)
theorem holdInt {h : Heap} {n : Int} {v : Value} (k : PySem.W.Holds h v n) : ∃ t, v = .int n t := by
  obtain ⟨as, r⟩ := k
  have r' : Reads h v (.int n) as := r
  cases r' with
  | int i t => exact ⟨t, rfl⟩
theorem call_minA (hu : X.A.units + 64 < cLine) (hc : X.calm = true) : CallR X (.builtin "min") (fun xs H Q => (∃ i j, xs = [.int i, .int j] ∧ Q (.int (if j < i then j else i)) H) ∨ rBest X.K lmin xs H Q) := by
  refine CallR.or (call_min2 hc) ?_
  intro pins s σ H xs us Q I r ⟨a, ns, e, h, hl, q⟩
  subst e
  obtain ⟨u, rfl, ru⟩ := vals1 r
  obtain rfl : u = .ref a := ru
  have hh := I.ok.hd hc
  cases ns with
  | nil => cases hl
  | cons n ns =>
    have fin : ∀ {v : Value} {h' : Heap} {tk : Nat}, PySem.W.Holds h' v (PySem.W.minOf n ns) → (∀ b o, s.heap.get? b = some o → h'.get? b = some o) → EP X pins σ Q v { s with heap := h', toks := tk } := fun {v h' tk} k keep => by
      obtain ⟨t, rfl⟩ := holdInt k
      exact ⟨.int _, H, I.kept keep, ⟨t, rfl⟩, q⟩
    rcases h with h | h
    · obtain ⟨its, rv, hL, _⟩ := I.list h
      exact PySem.W.min_list_datum hh hL.isList (holdInts rv) (by show X.A.units + 1 + 0 < cLine; omega) fun i v h' tk _ k keep => fin k keep
    · obtain ⟨its, rv, hT, _⟩ := I.tuple h
      exact PySem.W.min_tuple_datum hh hT (holdInts rv) (by show X.A.units + 1 + 0 < cLine; omega) fun i v h' tk _ k keep => fin k keep
theorem call_maxA (hu : X.A.units + 64 < cLine) (hc : X.calm = true) : CallR X (.builtin "max") (fun xs H Q => (∃ i j, xs = [.int i, .int j] ∧ Q (.int (if j > i then j else i)) H) ∨ rBest X.K lmax xs H Q) := by
  refine CallR.or (call_max2 hc) ?_
  intro pins s σ H xs us Q I r ⟨a, ns, e, h, hl, q⟩
  subst e
  obtain ⟨u, rfl, ru⟩ := vals1 r
  obtain rfl : u = .ref a := ru
  have hh := I.ok.hd hc
  cases ns with
  | nil => cases hl
  | cons n ns =>
    have fin : ∀ {v : Value} {h' : Heap} {tk : Nat}, PySem.W.Holds h' v (PySem.W.maxOf n ns) → (∀ b o, s.heap.get? b = some o → h'.get? b = some o) → EP X pins σ Q v { s with heap := h', toks := tk } := fun {v h' tk} k keep => by
      obtain ⟨t, rfl⟩ := holdInt k
      exact ⟨.int _, H, I.kept keep, ⟨t, rfl⟩, q⟩
    rcases h with h | h
    · obtain ⟨its, rv, hL, _⟩ := I.list h
      exact PySem.W.max_list_datum hh hL.isList (holdInts rv) (by show X.A.units + 1 + 0 < cLine; omega) fun i v h' tk _ k keep => fin k keep
    · obtain ⟨its, rv, hT, _⟩ := I.tuple h
      exact PySem.W.max_tuple_datum hh hT (holdInts rv) (by show X.A.units + 1 + 0 < cLine; omega) fun i v h' tk _ k keep => fin k keep
theorem best_of {g : Gx} {F : Hp} {ρ : VE} {σ : L2.St} {H : Hp} {d : Dv} {vs : List V} {xs : List Dv} {ns : List Int} {f : List Int → Int} {Q : VK} (rel : Rel X.K g F ρ σ H) (h : Paired (Top X.K F H) [d] vs) (hx : items? d = some xs) (hn : ints? xs = some ns) (h0 : 0 < ns.length)
    (z : okE X g F σ Q (.d (.int (f ns))) ρ) : rBest X.K f vs H Q := by
  obtain ⟨v, rfl, t⟩ := pd1 h
  obtain ⟨a, us, rfl, h1, h2⟩ := t.seq rel.ext hx
  obtain rfl := ints?_eq hn
  obtain rfl := h2.ints_inv
  exact ⟨a, ns, rfl, h1, h0, z _ F H (Ext.refl F) rel (.int _)⟩
theorem q_min : PL X (fun xs H Q => (∃ i j, xs = [.int i, .int j] ∧ Q (.int (if j < i then j else i)) H) ∨ rBest X.K lmin xs H Q) qMin := by
  intro g F ρ σ H vs ds Q W rel h z
  unfold qMin at z
  split at z
  · obtain ⟨v, u, rfl, t, k⟩ := pd2 h
    obtain rfl := t.int
    obtain rfl := k.int
    exact .inl ⟨_, _, rfl, z _ F H (Ext.refl F) rel (.int _)⟩
  · rw [RP_bnd] at z
    obtain ⟨xs, hx, z⟩ := RP_opt z
    rw [RP_bnd] at z
    obtain ⟨ns, hn, z⟩ := RP_opt z
    rw [RP_bnd] at z
    obtain ⟨h0, z⟩ := RP_grd z
    exact .inr (best_of rel h hx hn h0 z)
  · exact z.elim
theorem q_max : PL X (fun xs H Q => (∃ i j, xs = [.int i, .int j] ∧ Q (.int (if j > i then j else i)) H) ∨ rBest X.K lmax xs H Q) qMax := by
  intro g F ρ σ H vs ds Q W rel h z
  unfold qMax at z
  split at z
  · obtain ⟨v, u, rfl, t, k⟩ := pd2 h
    obtain rfl := t.int
    obtain rfl := k.int
    exact .inl ⟨_, _, rfl, z _ F H (Ext.refl F) rel (.int _)⟩
  · rw [RP_bnd] at z
    obtain ⟨xs, hx, z⟩ := RP_opt z
    rw [RP_bnd] at z
    obtain ⟨ns, hn, z⟩ := RP_opt z
    rw [RP_bnd] at z
    obtain ⟨h0, z⟩ := RP_grd z
    exact .inr (best_of rel h hx hn h0 z)
  · exact z.elim
/-- sum of ints -/
def qSum : List Dv → M RV
  | [.lst xs] => do
    let ns ← M.opt (ints? xs)
    pure (.d (.int ns.sum))
  | [.rls xs] => do
    let ns ← M.opt (ints? xs)
    pure (.d (.int ns.sum))
  | _ => M.bad
theorem q_sum : PL X (rSum X.K) qSum := by
  intro g F ρ σ H vs ds Q W rel h z
  unfold qSum at z
  split at z
  · rw [RP_bnd] at z
    obtain ⟨ns, hn, z2⟩ := RP_opt z
    obtain ⟨v, rfl, t⟩ := pd1 h
    obtain ⟨a, us, rfl, h1, h2⟩ := t.lst rel.ext
    obtain rfl := ints?_eq hn
    obtain rfl := h2.ints_inv
    exact ⟨a, ns, rfl, SqL.of h1, z2 _ F H (Ext.refl F) rel (.int _)⟩
  · rw [RP_bnd] at z
    obtain ⟨ns, hn, z2⟩ := RP_opt z
    obtain ⟨v, rfl, t⟩ := pd1 h
    obtain ⟨a, us, rfl, h1, h2⟩ := t.rls rel.ext
    obtain rfl := ints?_eq hn
    obtain rfl := h2.ints_inv
    exact ⟨a, ns, rfl, h1, z2 _ F H (Ext.refl F) rel (.int _)⟩
  · exact z.elim
/-- list, tuple -/
def qList : List Dv → M RV
  | [d] => do
    let xs ← M.opt (items? d)
    pure (.fr (.lst xs))
  | _ => M.bad
theorem q_list : PL X (fun xs H Q => ∃ p ys, xs = [.ref p] ∧ (SqL X.K H p ys ∨ SqT X.K H p ys) ∧ ∀ l, H l = none → Q (.ref l) (upd H l (.lst ys))) qList := by
  intro g F ρ σ H vs ds Q W rel h z
  unfold qList at z
  split at z
  · rw [RP_bnd] at z
    obtain ⟨xs, hx, z⟩ := RP_opt z
    obtain ⟨v, rfl, t⟩ := pd1 h
    obtain ⟨a, us, rfl, h1, h2⟩ := t.seq rel.ext hx
    exact ⟨a, us, rfl, h1, fun l hl => newLst rel h2 z hl⟩
  · exact z.elim
def qTuple : List Dv → M RV
  | [.tup xs] => pure (.d (.tup xs))
  | [.lst xs] => pure (.d (.tup xs))
  | [.rls xs] => pure (.d (.tup xs))
  | _ => M.bad
theorem q_tuple : PL X (fun xs H Q => ∃ p ys, xs = [.ref p] ∧ ((SqL X.K H p ys ∧ ∀ l, H l = none → Q (.ref l) (upd H l (.tup ys))) ∨ (SqT X.K H p ys ∧ Q (.ref p) H))) qTuple := by
  intro g F ρ σ H vs ds Q W rel h z
  unfold qTuple at z
  split at z
  · obtain ⟨v, rfl, t⟩ := pd1 h
    rcases t with t | ⟨p, o, rfl, ho, t⟩
    · cases t with
      | tup h1 h2 => exact ⟨_, _, rfl, .inr ⟨SqT.ext rel.ext h1, z _ F H (Ext.refl F) rel (.tup h1 h2)⟩⟩
    · cases t
  · obtain ⟨v, rfl, t⟩ := pd1 h
    obtain ⟨a, us, rfl, h1, h2⟩ := t.lst rel.ext
    exact ⟨a, us, rfl, .inl ⟨SqL.of h1, fun l hl => newTup rel h2 z hl⟩⟩
  · obtain ⟨v, rfl, t⟩ := pd1 h
    obtain ⟨a, us, rfl, h1, h2⟩ := t.rls rel.ext
    exact ⟨a, us, rfl, .inl ⟨h1, fun l hl => newTup rel h2 z hl⟩⟩
  · exact z.elim
/-- repr of plain data -/
def rRepr (K : PySem.W.Frag) : List V → Hp → VK → Prop := fun xs H Q => ∃ x d, xs = [x] ∧ Dp K H x d ∧ d.showable = true ∧ d.hasDict = false ∧ d.depth ≤ 60 ∧ d.shown.length ≤ sizeLine ∧ Q (.str d.shown) H
theorem call_reprA (hgd : X.A.guards = some []) (hu : X.A.units + 64 < cLine) : CallR X (.builtin "repr") (rRepr X.K) := by
  intro pins s σ H xs us Q I r ⟨x, d, e, hd, h1, h2, h3, h4, q⟩
  subst e
  obtain ⟨u, rfl, ru⟩ := vals1 r
  obtain ⟨as, rd⟩ := Dp.reads I d x u hd ru
  have fin : ∀ (h' : Heap) (t : Tok) (tk : Nat), (∀ b o, s.heap.get? b = some o → h'.get? b = some o) → EP X pins σ Q (.str d.shown t) { s with heap := h', toks := tk } := fun h' t tk keep => ⟨.str d.shown, H, I.kept keep, ⟨t, rfl⟩, q⟩
  cases hd with
  | lst a b =>
    obtain rfl : u = .ref _ := ru
    exact repr_of_reads' rd h1 (PyData.noDict_hsm h2) hgd (by omega) (fun _ _ k => k) (fun h' t tk keep => fin h' t tk keep) h4
  | tup a b =>
    obtain rfl : u = .ref _ := ru
    exact repr_of_reads' rd h1 (PyData.noDict_hsm h2) hgd (by omega) (fun _ _ k => k) (fun h' t tk keep => fin h' t tk keep) h4
  | non =>
    obtain rfl : u = .none := ru
    exact PySem.P.repr_of_none (fin s.heap _ _ fun _ _ k => k)
  | bl b =>
    obtain rfl : u = .bool b := ru
    exact PySem.P.repr_of_bool (fin s.heap _ _ fun _ _ k => k)
  | int i =>
    obtain ⟨t, rfl⟩ := ru
    exact PySem.P.repr_of_int (by simpa [PyData.showable] using h1) (fin s.heap _ _ fun _ _ k => k)
  | str z =>
    obtain ⟨t, rfl⟩ := ru
    exact PySem.P.repr_of_str (fin s.heap _ _ fun _ _ k => k) h4
end
end P0
end
section
set_option Elab.async false
set_option linter.all false
set_option maxRecDepth 100000
set_option maxHeartbeats 4000000
/-! P0, methods, own defs called, walks, targets, comprehensions. -/
namespace P0
open PySem PySem.Spec L2
open PyProof.Rows hiding St

section
variable {X : Cx} {W : Wh} {a b c e f o : Expr} {es : List Expr} {pos p apos cpos : Pos} {x : Str}
def okRepr (d : Dv) : Bool := isDt d && decide (dpD d ≤ 60) && (toPy d).showable && decide ((toPy d).shown.length ≤ sizeLine)
def qRepr : List Dv → M RV
  | [d] => do
    M.grd (okRepr d = true)
    pure (.d (.str (toPy d).shown))
  | _ => M.bad
theorem q_repr : PL X (rRepr X.K) qRepr := by
  intro g F ρ σ H vs ds Q W rel h z
  unfold qRepr at z
  split at z
  · rw [RP_bnd] at z
    obtain ⟨hg, z⟩ := RP_grd z
    unfold okRepr at hg
    rw [Bool.and_eq_true, Bool.and_eq_true, Bool.and_eq_true] at hg
    obtain ⟨⟨⟨h1, h2⟩, h3⟩, h4⟩ := hg
    obtain ⟨v, rfl, t⟩ := pd1 h
    exact ⟨v, _, rfl, t.dp rel.ext h1, h3, PyData.hasDict_of_canLay _ (canLay_toPy _ h1), by rw [depth_toPy]; exact of_decide_eq_true h2, of_decide_eq_true h4, z _ F H (Ext.refl F) rel (.str _)⟩
  · exact z.elim

/-! ### methods of the mutable thing of a slot -/
def getMu (i : Nat) : M Dv := fun ρ => match ρ[i]? with
  | some (.mu _ d) => .ok d ρ
  | _ => .bad
def putMu (i : Nat) (d : Dv) : M Unit := fun ρ => match ρ[i]? with
  | some (.mu b _) => .ok () (ρ.set i (.mu b d))
  | _ => .bad
section
variable {K : PySem.W.Frag} {g : Gx} {F H : Hp} {ρ : VE} {σ : L2.St} {i : Nat}
theorem getMu_ok {ok : Dv → VE → Prop} {ex : Er → VE → Prop} (r : Rel K g F ρ σ H) (z : RP (getMu i ρ) ok ex) : ∃ b d p o, ρ[i]? = some (Sl.mu b d) ∧ σ[i]? = some (some (V.ref p)) ∧ H p = some o ∧ RepO K F d o ∧ ok d ρ := by
  unfold getMu at z
  cases e : ρ[i]? with
  | none => simp only [e] at z; exact z.elim
  | some s =>
    simp only [e] at z
    cases s with
    | no => exact z.elim
    | exn => exact z.elim
    | val d => exact z.elim
    | ot t => exact z.elim
    | mu b d =>
      obtain ⟨p, o, h1, h2, h3, h4, _⟩ := r.mu i b d e
      exact ⟨b, d, p, o, rfl, h1, h3, h4, z⟩
theorem putMu_ok {b : Bool} {d d' : Dv} {ok : Unit → VE → Prop} {ex : Er → VE → Prop} (e : ρ[i]? = some (Sl.mu b d)) (z : RP (putMu i d' ρ) ok ex) : ok () (ρ.set i (Sl.mu b d')) := by
  unfold putMu at z
  simp only [e] at z
  exact z
end
/-- what is expected of a slot's list -/
def lst? : Dv → Option (List Dv)
  | .lst xs => some xs
  | _ => none
theorem lst?_eq {d : Dv} {xs : List Dv} (h : lst? d = some xs) : d = .lst xs := by
  cases d <;> first | (cases h; rfl) | cases h
def dct? : Dv → Option (List (Key × Dv))
  | .dct xs => some xs
  | _ => none
theorem dct?_eq {d : Dv} {xs : List (Key × Dv)} (h : dct? d = some xs) : d = .dct xs := by
  cases d <;> first | (cases h; rfl) | cases h
/-- the list of a slot -/
def getL (i : Nat) : M (List Dv) := do
  let l ← getMu i
  M.opt (lst? l)
def getD' (i : Nat) : M (List (Key × Dv)) := do
  let l ← getMu i
  M.opt (dct? l)
section
variable {K : PySem.W.Frag} {g : Gx} {F H : Hp} {ρ : VE} {σ : L2.St} {i : Nat}
theorem getL_ok {ok : List Dv → VE → Prop} {ex : Er → VE → Prop} (r : Rel K g F ρ σ H) (z : RP (getL i ρ) ok ex) : ∃ b xs p vs, ρ[i]? = some (Sl.mu b (.lst xs)) ∧ σ[i]? = some (some (V.ref p)) ∧ H p = some (.lst vs) ∧ Reps K F xs vs ∧ ok xs ρ := by
  unfold getL at z
  rw [RP_bnd] at z
  obtain ⟨b, l, q, ob, m1, m2, m3, m4, z3⟩ := getMu_ok r z
  obtain ⟨xs, hx, z4⟩ := RP_opt z3
  obtain rfl := lst?_eq hx
  obtain ⟨vs, rfl, hvs⟩ := m4.lstI
  exact ⟨b, xs, q, vs, m1, m2, m3, hvs, z4⟩
theorem getD_ok {ok : List (Key × Dv) → VE → Prop} {ex : Er → VE → Prop} (r : Rel K g F ρ σ H) (z : RP (getD' i ρ) ok ex) : ∃ b xs p vs, ρ[i]? = some (Sl.mu b (.dct xs)) ∧ σ[i]? = some (some (V.ref p)) ∧ H p = some (.dK vs) ∧ KD K F xs vs ∧ ok xs ρ := by
  unfold getD' at z
  rw [RP_bnd] at z
  obtain ⟨b, l, q, ob, m1, m2, m3, m4, z3⟩ := getMu_ok r z
  obtain ⟨xs, hx, z4⟩ := RP_opt z3
  obtain rfl := dct?_eq hx
  obtain ⟨vs, rfl, hvs⟩ := m4.dctI
  exact ⟨b, xs, q, vs, m1, m2, m3, hvs, z4⟩
end
/-- xs.append(e) -/
def mApp (i : Nat) (m : M AV) : M RV := do
  let _ ← getL i
  let a ← m
  let d ← ali a
  let xs ← getL i
  M.grd (xs.length < sizeLine)
  putMu i (.lst (xs ++ [d]))
  pure (.d .non)
theorem se_append (i : Nat) {call : Expr} {m : M AV} (h : SF X W e m) (pb : ∀ t, PE X e t → PE X call (tBM X.K "list" rAppend (tVar i) (tCons t tNil))) : SE X W call (mApp i m) := by
  obtain ⟨t, pt, qt⟩ := h.ex
  refine ⟨_, pb t pt, fun g hw F ρ σ H Q rel z => ?_⟩
  unfold mApp at z
  rw [RP_bnd] at z
  obtain ⟨b0, xs0, p0, vs0, m1, m2, m3, m4, z⟩ := getL_ok rel z
  refine ⟨_, m2, .inl ⟨rfl, _, SqL.of m3⟩, ?_⟩
  rw [RP_bnd] at z
  refine qt g hw F ρ σ H _ rel (z.imp (fun av ρ1 z1 => ?_) fun _ _ k => k)
  intro v F1 H1 e1 rel1 ok1
  rw [RP_bnd] at z1
  obtain ⟨d, F2, ρ2, e2, r2, h2, z2⟩ := ali_ok rel1 ok1 z1
  rw [RP_bnd] at z2
  obtain ⟨b, xs, q, vs, n1, n2, n3, n4, z3⟩ := getL_ok r2 z2
  rw [m2] at n2; cases n2
  rw [RP_bnd] at z3
  obtain ⟨hl, z5⟩ := RP_grd z3
  rw [RP_bnd] at z5
  have z6 := putMu_ok n1 z5
  exact ⟨p0, vs, v, rfl, rfl, n3, by rw [← n4.length]; exact hl, z6 _ F2 _ (e1.trans e2) (r2.write n1 m2 (.lst (n4.append (.cons h2 .nil)))) .non⟩
/-- xs.pop() -/
def mPop (i : Nat) : M RV := do
  let xs ← getL i
  let d ← M.opt xs[xs.length - 1]?
  putMu i (.lst xs.dropLast)
  pure (.d d)
theorem se_pop (i : Nat) {call : Expr} (pb : PE X call (tBM0 X.K "list" rPop (tVar i))) : SE X W call (mPop i) := by
  refine ⟨_, pb, fun g hw F ρ σ H Q rel z => ?_⟩
  unfold mPop at z
  rw [RP_bnd] at z
  obtain ⟨b, xs, q, vs, n1, n2, n3, n4, z3⟩ := getL_ok rel z
  rw [RP_bnd] at z3
  obtain ⟨d, hd, z4⟩ := RP_opt z3
  rw [RP_bnd] at z4
  have z6 := putMu_ok n1 z4
  obtain ⟨u, h1, h2⟩ := n4.get hd
  rw [n4.length] at h1
  exact ⟨_, n2, .inl ⟨rfl, _, SqL.of n3⟩, q, vs, u, rfl, rfl, n3, h1, z6 _ F _ (Ext.refl F) (rel.write n1 n2 (.lst n4.dropLast)) h2⟩
def int? : Dv → Option Int
  | .int i => some i
  | _ => none
theorem int?_eq {d : Dv} {i : Int} (h : int? d = some i) : d = .int i := by
  cases d <;> first | (cases h; rfl) | cases h
/-- xs.pop(k) -/
def mPopAt (i : Nat) (m : M AV) : M RV := do
  let _ ← getL i
  let a ← m
  let k ← con a
  let j ← M.opt (int? k)
  let xs ← getL i
  M.grd (-(2 ^ 63) ≤ j ∧ j < 2 ^ 63)
  let n ← M.opt (seqIndex? j xs.length)
  let d ← M.opt xs[n]?
  putMu i (.lst (xs.eraseIdx n))
  pure (.d d)
theorem se_popAt (i : Nat) {call : Expr} {m : M AV} (h : SF X W e m) (pb : ∀ t, PE X e t → PE X call (tBM X.K "list" rPopAt (tVar i) (tCons t tNil))) : SE X W call (mPopAt i m) := by
  obtain ⟨t, pt, qt⟩ := h.ex
  refine ⟨_, pb t pt, fun g hw F ρ σ H Q rel z => ?_⟩
  unfold mPopAt at z
  rw [RP_bnd] at z
  obtain ⟨b0, xs0, p0, vs0, m1, m2, m3, m4, z⟩ := getL_ok rel z
  refine ⟨_, m2, .inl ⟨rfl, _, SqL.of m3⟩, ?_⟩
  rw [RP_bnd] at z
  refine qt g hw F ρ σ H _ rel (z.imp (fun av ρ1 z1 => ?_) fun _ _ k => k)
  intro v F1 H1 e1 rel1 ok1
  rw [RP_bnd] at z1
  obtain ⟨k, hk, z2⟩ := con_ok rel1 ok1 z1
  rw [RP_bnd] at z2
  obtain ⟨j, hj, z9⟩ := RP_opt z2
  obtain rfl := int?_eq hj
  obtain rfl := hk.int
  rw [RP_bnd] at z9
  obtain ⟨b, xs, q, vs, n1, n2, n3, n4, z3⟩ := getL_ok rel1 z9
  rw [m2] at n2; cases n2
  rw [RP_bnd] at z3
  obtain ⟨⟨g1, g2⟩, z4⟩ := RP_grd z3
  rw [RP_bnd] at z4
  obtain ⟨n, hn, z4⟩ := RP_opt z4
  rw [RP_bnd] at z4
  obtain ⟨d, hd, z4⟩ := RP_opt z4
  rw [RP_bnd] at z4
  have z6 := putMu_ok n1 z4
  obtain ⟨u, h1, h2⟩ := n4.get hd
  rw [n4.length] at hn
  exact ⟨p0, vs, j, n, u, rfl, rfl, n3, g1, g2, hn, h1, z6 _ F1 _ e1 (rel1.write n1 m2 (.lst (n4.eraseIdx n))) h2⟩
/-- d.get(k, x) -/
def mGet2 (ma mb mc : M AV) : M RV := do
  let x ← ma
  let d0 ← con x
  let _ ← M.opt (dct? d0)
  let y ← mb
  let w ← mc
  let d ← con x
  let kvs ← M.opt (dct? d)
  let ky ← con y
  let k ← M.opt (key? ky)
  let dv ← ali w
  pure (.d ((valD kvs k).getD dv))
theorem se_get2 {call : Expr} {ma mb mc : M AV} (ha : SF X W o ma) (hb : SF X W e mb) (hc : SF X W f mc) (pb : ∀ ta tb tc, PE X o ta → PE X e tb → PE X f tc → PE X call (tDGet2 ta tb tc)) : SE X W call (mGet2 ma mb mc) := by
  obtain ⟨ta, pa, qa⟩ := ha.ex
  obtain ⟨tb, pb', qb⟩ := hb.ex
  obtain ⟨tc, pc, qc⟩ := hc.ex
  refine ⟨_, pb ta tb tc pa pb' pc, fun g hw F ρ σ H Q rel z => ?_⟩
  unfold mGet2 at z
  rw [RP_bnd] at z
  refine qa g hw F ρ σ H _ rel (z.imp (fun x ρ1 z1 => ?_) fun _ _ k => k)
  intro v F1 H1 e1 rel1 ok1
  rw [RP_bnd] at z1
  obtain ⟨d0, t0, z1⟩ := con_ok rel1 ok1 z1
  rw [RP_bnd] at z1
  obtain ⟨kv0, hk0, y1⟩ := RP_opt z1
  obtain rfl := dct?_eq hk0
  obtain ⟨a, qs0, rfl, h1, h2⟩ := t0.dct rel1.ext
  refine ⟨a, rfl, .inl ⟨_, .inl h1⟩, ?_⟩
  rw [RP_bnd] at y1
  refine qb g hw F1 ρ1 σ H1 _ rel1 (y1.imp (fun y ρ2 z2 => ?_) fun _ _ k => k.ext e1)
  intro u F2 H2 e2 rel2 ok2
  rw [RP_bnd] at z2
  refine qc g hw F2 ρ2 σ H2 _ rel2 (z2.imp (fun w ρ3 z3 => ?_) fun _ _ k => k.ext (e1.trans e2))
  intro s F3 H3 e3 rel3 ok3
  rw [RP_bnd] at z3
  obtain ⟨d, td, z4⟩ := con_ok rel3 ((ok1.mono e2).mono e3) z3
  rw [RP_bnd] at z4
  obtain ⟨kvs, hk, y4⟩ := RP_opt z4
  obtain rfl := dct?_eq hk
  obtain ⟨a', qs, ea, h3, h4⟩ := td.dct rel3.ext
  cases ea
  rw [RP_bnd] at y4
  obtain ⟨ky, ty, y5⟩ := con_ok rel3 (ok2.mono e3) y4
  rw [RP_bnd] at y5
  obtain ⟨k, hky, y6⟩ := RP_opt y5
  obtain rfl := key_V ty hky
  rw [RP_bnd] at y6
  obtain ⟨dv, F4, ρ4, e4, r4, h5, z5⟩ := ali_ok rel3 ok3 y6
  refine ⟨valV qs k, DGet.k h3, ?_⟩
  have E := ((e1.trans e2).trans e3).trans e4
  rcases h4.val k with ⟨k1, k2⟩ | ⟨d', v', k1, k2, k3⟩
  · rw [k1] at z5; rw [k2]
    exact z5 _ F4 H3 E r4 h5
  · rw [k1] at z5; rw [k2]
    exact z5 _ F4 H3 E r4 (k3.mono e4)
/-- xs.index(y), flat things, there -/
def idxD : List Dv → Dv → Option Nat
  | [], _ => none
  | x :: xs, y => if eqD x y = true then some 0 else (idxD xs y).map (· + 1)
theorem idxD_ok {K : PySem.W.Frag} {F : Hp} {y : Dv} {u : V} (ry : Rep K F y u) (fy : flatD y = true) : ∀ {ds : List Dv} {vs : List V} {j : Nat}, Reps K F ds vs → ds.all flatD = true → idxD ds y = some j →
    ∃ z, vs[j]? = some z ∧ eqV z u = true ∧ ∀ (m : Nat) (z' : V), m < j → vs[m]? = some z' → eqV z' u = false
  | [], _, _, .nil, _, h => by cases h
  | d :: ds, v :: vs, j, .cons a b, f, h => by
    rw [List.all_cons, Bool.and_eq_true] at f
    rw [idxD] at h
    by_cases c : eqD d y = true
    · rw [if_pos c] at h
      cases h
      exact ⟨v, rfl, by rw [a.eqF ry f.1 fy]; exact c, fun m z' hm => absurd hm (Nat.not_lt_zero m)⟩
    · rw [if_neg c] at h
      cases q : idxD ds y with
      | none => rw [q] at h; cases h
      | some i =>
        rw [q] at h; cases h
        obtain ⟨z, h1, h2, h3⟩ := idxD_ok ry fy b f.2 q
        refine ⟨z, h1, h2, fun m z' hm hz => ?_⟩
        cases m with
        | zero =>
          cases hz
          rw [a.eqF ry f.1 fy]
          exact Bool.eq_false_iff.mpr c
        | succ m => exact h3 m z' (Nat.lt_of_succ_lt_succ hm) hz
def mIndex (ma mb : M AV) : M RV := do
  let x ← ma
  let d0 ← con x
  let _ ← M.opt (lst? d0)
  let y ← mb
  let d ← con x
  let xs ← M.opt (lst? d)
  let k ← con y
  M.grd (flatD k = true ∧ xs.all flatD = true)
  let j ← M.opt (idxD xs k)
  pure (.d (.int j))
theorem se_index {call : Expr} {ma mb : M AV} (ha : SF X W o ma) (hb : SF X W e mb) (pb : ∀ ta tb, PE X o ta → PE X e tb → PE X call (tBM X.K "list" (rIndex X.K) ta (tCons tb tNil))) : SE X W call (mIndex ma mb) := by
  obtain ⟨ta, pa, qa⟩ := ha.ex
  obtain ⟨tb, pb', qb⟩ := hb.ex
  refine ⟨_, pb ta tb pa pb', fun g hw F ρ σ H Q rel z => ?_⟩
  unfold mIndex at z
  rw [RP_bnd] at z
  refine qa g hw F ρ σ H _ rel (z.imp (fun x ρ1 z1 => ?_) fun _ _ k => k)
  intro v F1 H1 e1 rel1 ok1
  rw [RP_bnd] at z1
  obtain ⟨d0, t0, z1⟩ := con_ok rel1 ok1 z1
  rw [RP_bnd] at z1
  obtain ⟨xs0, hx0, y1⟩ := RP_opt z1
  obtain rfl := lst?_eq hx0
  obtain ⟨a, vs0, rfl, h1, h2⟩ := t0.lst rel1.ext
  refine ⟨.inl ⟨rfl, _, SqL.of h1⟩, ?_⟩
  rw [RP_bnd] at y1
  refine qb g hw F1 ρ1 σ H1 _ rel1 (y1.imp (fun y ρ2 z2 => ?_) fun _ _ k => k.ext e1)
  intro u F2 H2 e2 rel2 ok2
  rw [RP_bnd] at z2
  obtain ⟨d, td, z3⟩ := con_ok rel2 (ok1.mono e2) z2
  rw [RP_bnd] at z3
  obtain ⟨xs, hx, y3⟩ := RP_opt z3
  obtain rfl := lst?_eq hx
  obtain ⟨a', vs, ea, h3, h4⟩ := td.lst rel2.ext
  cases ea
  rw [RP_bnd] at y3
  obtain ⟨k, tk, y4⟩ := con_ok rel2 ok2 y3
  rw [RP_bnd] at y4
  obtain ⟨⟨f1, f2⟩, y5⟩ := RP_grd y4
  rw [RP_bnd] at y5
  obtain ⟨j, hj, z4⟩ := RP_opt y5
  have rk := tk.flat f1
  obtain ⟨zz, q1, q2, q3⟩ := idxD_ok rk f1 h4 f2 hj
  exact ⟨a, vs, u, j, zz, rfl, rfl, SqL.of h3, rk.flat f1, h4.flat f2, q1, q2, q3, z4 _ F2 H2 (e1.trans e2) rel2 (.int _)⟩

/-! ### own defs -/
def kCall (r : R RV) : M RV := fun ρ => match r with
  | .ok rv _ => .ok rv ρ
  | .exc er _ => .exc er ρ
  | .bad => .bad
def eCall (n : Nat) (φ : List Sl → R RV) (ma : M (List AV)) : M RV := do
  let as ← ma
  let ds ← aliL as
  M.grd (ds.length = n)
  kCall (φ (ds.map Sl.val))
theorem se_call {k n : Nat} {fa : Addr} {fd : FuncData} {ps : List Str} {φ : List Sl → R RV} {ma : M (List AV)} (G : FnG X.prog X.w X.K X.mg X.base k fa fd ps (spF X.K X.mg φ n)) (hgd : X.A.guards = some []) (hr : Room k X.A) (tk : Takes X W.w) (hm : X.mg x = some (.ref fa))
    (hk : PySem.W.keepIn X.K (.ref fa) = true) (hb : Binds X.K fd ps []) (hg : Gl X x) (ha : SA X W (e :: es) ma) (hdb : (x == ("__debug__" : Str)) = false := by decide)
    (he : starEach (e :: es) X.env = (false, eval e X.env) :: starEach es X.env := by rfl) (hpl : (backTo pos (starEach es X.env)).any (·.1) = false := by rfl) : SE X W (.Call (.Name x p) (e :: es) [] pos) (eCall n φ ma) := by
  obtain ⟨t, pt, qt⟩ := ha.ex
  refine ⟨_, pe_callG G hgd hr hg hm hk hb (fun σ => passAt tk σ) pt hdb he hpl, fun g hw F ρ σ H Q rel z => ?_⟩
  unfold eCall at z
  rw [RP_bnd] at z
  refine qt g hw F ρ σ H _ rel (z.imp (fun as ρ1 z1 => ?_) fun _ _ k => k)
  intro vs F1 H1 e1 rel1 ok1
  rw [RP_bnd] at z1
  obtain ⟨ds, F2, ρ2, e2, r2, h2, z2⟩ := aliL_ok rel1 ok1 z1
  rw [RP_bnd] at z2
  obtain ⟨hn, z2⟩ := RP_grd z2
  refine ⟨F2, ds, hn, r2.ext, h2, ?_⟩
  · unfold kCall at z2
    cases hφ : φ (ds.map Sl.val) with
    | bad => rw [hφ] at z2; exact z2
    | exc er ρ' =>
      rw [hφ] at z2
      intro cls d F' H' c ek
      exact z2 cls d σ F' H' ((e1.trans e2).trans c.e1) (r2.called c) ek
    | ok rv ρ' =>
      rw [hφ] at z2
      intro v F' H' c rk
      exact z2 v F' H' ((e1.trans e2).trans c.e1) (r2.called c) (RvC.ok r2 (r2.called c) (r2.calledO c) rk)
/-- .. whose first argument is the mutable thing of slot i, turned by it -/
def kCallI (i : Nat) (r : R RV) : M RV := fun ρ => match r with
  | .ok rv ρ' => match (ρ'[0]? : Option Sl) with
    | some (Sl.mu true d) => match putMu i d ρ with
      | .ok _ ρ2 => .ok rv ρ2
      | _ => .bad
    | _ => .bad
  | .exc er ρ' => match (ρ'[0]? : Option Sl) with
    | some (Sl.mu true d) => match putMu i d ρ with
      | .ok _ ρ2 => .exc er ρ2
      | _ => .bad
    | _ => .bad
  | .bad => .bad
def eCallI (i n : Nat) (φ : List Sl → R RV) (ma : M (List AV)) : M RV := do
  let _ ← getMu i
  let as ← ma
  let ds ← aliL as
  M.grd (ds.length = n)
  let d0 ← getMu i
  kCallI i (φ (Sl.mu true d0 :: ds.map Sl.val))
theorem se_callI (i : Nat) {k n : Nat} {fa : Addr} {fd : FuncData} {ps : List Str} {φ : List Sl → R RV} {y : Str} {py : Pos} {ma : M (List AV)} (G : FnG X.prog X.w X.K X.mg X.base k fa fd ps (spI X.K X.mg φ n)) (hgd : X.A.guards = some []) (hr : Room k X.A) (tk : Takes X W.w) (hm : X.mg x = some (.ref fa))
    (hk : PySem.W.keepIn X.K (.ref fa) = true) (hb : Binds X.K fd ps []) (hg : Gl X x) (ha : SA X W es ma) (hN : X.N[i]? = some y := by rfl) (hv : Vis X.env.scope y := by first | exact Or.inl rfl | exact Or.inr (Or.inl rfl) | exact Or.inr (Or.inr rfl))
    (hd : (y == ("__debug__" : Str)) = false := by decide) (hcd : (y == ("__classdict__" : Str)) = false := by decide) (hdb : (x == ("__debug__" : Str)) = false := by decide)
    (he : starEach (.Name y py :: es) X.env = (false, eval (.Name y py) X.env) :: starEach es X.env := by rfl) (hpl : (backTo pos (starEach es X.env)).any (·.1) = false := by rfl) : SE X W (.Call (.Name x p) (.Name y py :: es) [] pos) (eCallI i n φ ma) := by
  obtain ⟨t, pt, qt⟩ := ha.ex
  refine ⟨_, pe_callG G hgd hr hg hm hk hb (fun σ => passAt tk σ) (pa_cons (pv i hN hv hd hcd) pt he) hdb he hpl, fun g hw F ρ σ H Q rel z => ?_⟩
  unfold eCallI at z
  rw [RP_bnd] at z
  obtain ⟨_, _, p00, _, _, w2, _, _, z⟩ := getMu_ok rel z
  rw [RP_bnd] at z
  have key : ∀ {v0 : V}, σ[i]? = some (some v0) → t σ H fun vs H1 => spI X.K X.mg φ n (v0 :: vs) H1 Q (WE W.w σ) := fun {v0} hv0 => by
    refine qt g hw F ρ σ H _ rel (z.imp (fun as ρ1 z1 => ?_) fun _ _ k => k)
    intro vs F1 H1 e1 rel1 ok1
    rw [RP_bnd] at z1
    obtain ⟨ds, F2, ρ2, e2, r2, h2, z2⟩ := aliL_ok rel1 ok1 z1
    rw [RP_bnd] at z2
    obtain ⟨hn, z2⟩ := RP_grd z2
    rw [RP_bnd] at z2
    obtain ⟨b, d0, p0, o, m1, m2, m3, m4, z3⟩ := getMu_ok r2 z2
    rw [hv0] at m2; cases m2
    obtain ⟨q, u, n1, n2, n3, n4, _⟩ := r2.mu i b d0 m1
    rw [hv0] at n1; cases n1
    refine ⟨F2, d0, p0, o, ds, vs, rfl, hn, r2.ext, n2, m3, m4, h2, ?_⟩
    unfold kCallI at z3
    cases hφ : φ (Sl.mu true d0 :: ds.map Sl.val) with
    | bad => simp only [hφ] at z3; exact z3
    | exc er ρ' =>
      simp only [hφ] at z3
      intro cls d F' H' d' o' c e0 f1 f2 f3 ek
      simp only [e0] at z3
      unfold putMu at z3
      simp only [m1] at z3
      exact z3 cls d σ F' H' ((e1.trans e2).trans c.e1) (r2.calledI m1 hv0 c f1 f2 f3) ek
    | ok rv ρ' =>
      simp only [hφ] at z3
      intro v F' H' d' o' c e0 f1 f2 f3 rk
      simp only [e0] at z3
      unfold putMu at z3
      simp only [m1] at z3
      exact z3 v F' H' ((e1.trans e2).trans c.e1) (r2.calledI m1 hv0 c f1 f2 f3) (RvC.ok r2 (r2.calledI m1 hv0 c f1 f2 f3) (r2.calledIO m1 hv0 c f1 f2 f3).2 rk)
  exact ⟨_, w2, key w2⟩
end
end P0
end
section
set_option Elab.async false
set_option linter.all false
set_option maxRecDepth 100000
set_option maxHeartbeats 4000000
/-! P0, targets, walks, comprehensions. -/
namespace P0
open PySem PySem.Spec L2
open PyProof.Rows hiding St

/-! ### targets -/
section
variable (X : Cx) (g : Gx) (F : Hp) (σ : L2.St) (sl : List Nat)
def okV (Q : L2.St → Hp → Prop) (_ : Unit) (ρ' : VE) : Prop := ∀ σ' F' H', Ext F F' → Rel X.K g F' ρ' σ' H' → σ'.length = σ.length → (∀ j, j ∉ sl → σ'[j]? = σ[j]?) → Q σ' H'
end
structure SG (X : Cx) (tg : Expr) (sl : List Nat) (mg : Dv → M Unit) : Prop where
  ex : ∃ t, PG X tg t ∧ ∀ g F ρ σ H v d Q ex, Rel X.K g F ρ σ H → Rep X.K F d v → RP (mg d ρ) (okV X g F σ sl Q) ex → t v σ H Q
structure SGs (X : Cx) (es : List Expr) (sl : List Nat) (mg : List Dv → M Unit) : Prop where
  ex : ∃ t, PGs X es t ∧ ∀ g F ρ σ H vs ds Q ex, Rel X.K g F ρ σ H → Reps X.K F ds vs → RP (mg ds ρ) (okV X g F σ sl Q) ex → t vs σ H Q
def setS (i : Nat) (d : Dv) : M Unit := fun ρ => match (ρ[i]? : Option Sl) with
  | some (Sl.mu true _) => .bad
  | some _ => .ok () (ρ.set i (Sl.val d))
  | none => .bad
theorem setS_ok {K : PySem.W.Frag} {g : Gx} {F H : Hp} {ρ : VE} {σ : L2.St} {i : Nat} {d : Dv} {v : V} {ok : Unit → VE → Prop} {ex : Er → VE → Prop} (r : Rel K g F ρ σ H) (hd : Rep K F d v) (z : RP (setS i d ρ) ok ex) : Rel K g F (ρ.set i (Sl.val d)) (σ.set i (some v)) H ∧ ok () (ρ.set i (Sl.val d)) := by
  unfold setS at z
  cases e : (ρ[i]? : Option Sl) with
  | none => simp only [e] at z; exact z.elim
  | some s =>
    simp only [e] at z
    cases s with
    | no => exact ⟨r.setVal (fun f h => by rw [e] at h; cases h) hd, z⟩
    | exn => exact ⟨r.setVal (fun f h => by rw [e] at h; cases h) hd, z⟩
    | ot t => exact ⟨r.setVal (fun f h => by rw [e] at h; cases h) hd, z⟩
    | val f => exact ⟨r.setVal (fun f h => by rw [e] at h; cases h) hd, z⟩
    | mu b f =>
      cases b with
      | true => exact z.elim
      | false => exact ⟨r.setVal (fun f h => by rw [e] at h; cases h) hd, z⟩
section
variable {X : Cx} {W : Wh} {e c : Expr} {es : List Expr} {pos p : Pos}
theorem sg_name (i : Nat) {x : Str} (hN : X.N.Nodup) (hi : X.N[i]? = some x := by rfl) (hx : Loc X.env.scope x := by first | exact Or.inl rfl | exact Or.inr rfl) (hf : X.fn x = true ∨ X.env.scope.names.lookup x = some .local := by first | exact .inl rfl | exact .inr rfl) : SG X (.Name x pos) [i] (setS i) := by
  refine ⟨gName i, pg_name hN hi hx hf, fun g F ρ σ H v d Q ex r hd z => ?_⟩
  obtain ⟨r1, z1⟩ := setS_ok r hd z
  refine z1 _ F H (Ext.refl F) r1 (by rw [List.length_set]) fun j hj => ?_
  rw [List.getElem?_set_ne (fun q => hj (by rw [← q]; exact List.mem_singleton.mpr rfl))]
def gN : List Dv → M Unit
  | [] => pure ()
  | _ :: _ => M.bad
def gC (mg : Dv → M Unit) (mgs : List Dv → M Unit) : List Dv → M Unit
  | [] => M.bad
  | d :: ds => do
    mg d
    mgs ds
theorem sgs_nil : SGs X [] [] gN := by
  refine ⟨gNil, pgs_nil, fun g F ρ σ H vs ds Q ex r hd z => ?_⟩
  cases hd with
  | nil => exact ⟨rfl, z σ F H (Ext.refl F) r rfl fun _ _ => rfl⟩
  | cons a b => exact z.elim
theorem sgs_cons {sl sl' : List Nat} {mg : Dv → M Unit} {mgs : List Dv → M Unit} (h : SG X e sl mg) (h' : SGs X es sl' mgs) (hs : (assignEach (e :: es) X.env).map (·.2) = assign e X.env :: (assignEach es X.env).map (·.2) := by rfl) : SGs X (e :: es) (sl ++ sl') (gC mg mgs) := by
  obtain ⟨t, pt, qt⟩ := h.ex
  obtain ⟨u, pu, qu⟩ := h'.ex
  refine ⟨_, pgs_cons pt pu hs, fun g F ρ σ H vs ds Q ex r hd z => ?_⟩
  cases hd with
  | nil => exact z.elim
  | cons a b =>
    unfold gC at z
    rw [RP_bnd] at z
    refine ⟨_, _, rfl, qt g F ρ σ H _ _ _ ex r a (z.imp (fun _ ρ1 z1 => ?_) fun _ _ k => k)⟩
    intro σ1 F1 H1 e1 r1 l1 k1
    refine qu g F1 ρ1 σ1 H1 _ _ Q ex r1 (b.mono e1) (z1.imp (fun _ ρ2 z2 => ?_) fun _ _ k => k)
    intro σ2 F2 H2 e2 r2 l2 k2
    refine z2 σ2 F2 H2 (e1.trans e2) r2 (l2.trans l1) fun j hj => ?_
    rw [k2 j (fun q => hj (List.mem_append_right _ q)), k1 j (fun q => hj (List.mem_append_left _ q))]
def tup? : Dv → Option (List Dv)
  | .tup xs => some xs
  | _ => none
theorem tup?_eq {d : Dv} {xs : List Dv} (h : tup? d = some xs) : d = .tup xs := by
  cases d <;> first | (cases h; rfl) | cases h
def gT (n : Nat) (mgs : List Dv → M Unit) (d : Dv) : M Unit := do
  let xs ← M.opt (tup? d)
  M.grd (xs.length = n)
  mgs xs
theorem Rep.tupI {K : PySem.W.Frag} {F : Hp} {xs : List Dv} {v : V} (h : Rep K F (.tup xs) v) : ∃ a vs, v = .ref a ∧ SqT K F a vs ∧ Reps K F xs vs := by
  cases h with
  | tup a b => exact ⟨_, _, rfl, a, b⟩
theorem sg_tup {k n : Nat} {sl : List Nat} {mgs : List Dv → M Unit} (hc : X.calm = true) (h : SGs X es sl mgs) (hn : (assignEach es X.env).length = n := by rfl) (hst : (assignEach es X.env).findIdx? (·.1) = none := by rfl) : SG X (.Tuple es k pos) sl (gT n mgs) := by
  obtain ⟨t, pt, qt⟩ := h.ex
  refine ⟨_, pg_tup hc pt hn hst, fun g F ρ σ H v d Q ex r hd z => ?_⟩
  unfold gT at z
  rw [RP_bnd] at z
  obtain ⟨xs, hx, y⟩ := RP_opt z
  obtain rfl := tup?_eq hx
  rw [RP_bnd] at y
  obtain ⟨hl, y2⟩ := RP_grd y
  obtain ⟨a, vs, rfl, h1, h2⟩ := hd.tupI
  exact ⟨a, vs, rfl, SqT.ext r.ext h1, by rw [← h2.length]; exact hl, qt g F ρ σ H vs xs Q ex r h2 y2⟩

/-! ### walks -/
structure ItOk (K : PySem.W.Frag) (J : It) (F : Hp) (ds : List Dv) : Prop where
  stop : ∀ F1 H1, Ext F F1 → Ext F1 H1 → J.stop ds.length H1
  go : ∀ i F1 H1, i < ds.length → Ext F F1 → Ext F1 H1 → J.go i H1
  yld : ∀ i d F1 H1 x H2, ds[i]? = some d → Ext F F1 → Ext F1 H1 → J.yld i H1 x H2 → (H2 = H1 ∧ Rep K F1 d x) ∨ ∃ T vs es, x = .ref T ∧ H1 T = none ∧ H2 = upd H1 T (.tup vs) ∧ d = .tup es ∧ Reps K F1 es vs
structure SI (X : Cx) (W : Wh) (tg iter : Expr) (m : M (List Dv)) : Prop where
  ex : ∃ w, PI X tg iter w ∧ ∀ g, W.p g → ∀ F ρ σ H R, Rel X.K g F ρ σ H → RP (m ρ) (fun ds ρ' => ∀ J F' H', Ext F F' → Rel X.K g F' ρ' σ H' → ItOk X.K J F' ds → R J H') (exE X g F W) → w σ H R
theorem PI_or {tg iter : Expr} {w w' : TI} (h : PI X tg iter w) (h' : PI X tg iter w') : PI X tg iter (fun σ H R => w σ H R ∨ w' σ H R) := by
  refine ⟨fun pins s σ H R I q => ?_⟩
  rcases q with q | q
  · exact h.run pins s σ H R I q
  · exact h'.run pins s σ H R I q
def chars (x : Str) : List Dv := x.cps.toList.map fun c => Dv.str ⟨#[c]⟩
def walk? : Dv → Option (List Dv)
  | .str x => some (chars x)
  | d => items? d
def iSeq (ma : M AV) : M (List Dv) := do
  let a ← ma
  let d ← ali a
  M.opt (walk? d)
theorem itOk_list {K : PySem.W.Frag} {F : Hp} {a : Addr} {vs : List V} {ds : List Dv} (h : SqL K F a vs) (r : Reps K F ds vs) : ItOk K (Itl K a) F ds where
  stop := fun F1 H1 e1 e2 => ⟨vs, SqL.ext e2 (SqL.ext e1 h), by rw [r.length]; exact Nat.le_refl _⟩
  go := fun i F1 H1 hi e1 e2 => ⟨vs, vs[i]'(by rw [← r.length]; exact hi), SqL.ext e2 (SqL.ext e1 h), List.getElem?_eq_getElem _⟩
  yld := fun i d F1 H1 x H2 hd e1 e2 hy => by
    obtain ⟨rfl, k⟩ := hy
    obtain ⟨v, h1, h2⟩ := r.get hd
    have := k vs (SqL.ext e2 (SqL.ext e1 h))
    rw [h1] at this; cases this
    exact .inl ⟨rfl, h2.mono e1⟩
theorem itOk_tup {K : PySem.W.Frag} {F : Hp} {a : Addr} {vs : List V} {ds : List Dv} (h : SqT K F a vs) (r : Reps K F ds vs) : ItOk K (Itt K a) F ds where
  stop := fun F1 H1 e1 e2 => ⟨vs, SqT.ext e2 (SqT.ext e1 h), by rw [r.length]; exact Nat.le_refl _⟩
  go := fun i F1 H1 hi e1 e2 => ⟨vs, vs[i]'(by rw [← r.length]; exact hi), SqT.ext e2 (SqT.ext e1 h), List.getElem?_eq_getElem _⟩
  yld := fun i d F1 H1 x H2 hd e1 e2 hy => by
    obtain ⟨rfl, k⟩ := hy
    obtain ⟨v, h1, h2⟩ := r.get hd
    have := k vs (SqT.ext e2 (SqT.ext e1 h))
    rw [h1] at this; cases this
    exact .inl ⟨rfl, h2.mono e1⟩
theorem itOk_str {K : PySem.W.Frag} {F : Hp} {x : Str} : ItOk K (Its x) F (chars x) where
  stop := fun F1 H1 e1 e2 => by show x.cps.size ≤ (chars x).length; simp [chars]
  go := fun i F1 H1 hi e1 e2 => by show i < x.cps.size; simpa [chars] using hi
  yld := fun i d F1 H1 y H2 hd e1 e2 hy => by
    obtain ⟨rfl, c, h1, rfl⟩ := hy
    refine .inl ⟨rfl, ?_⟩
    unfold chars at hd
    rw [List.getElem?_map, Array.getElem?_toList, h1] at hd
    cases hd
    exact .str _
theorem si_seq {tg : Expr} {ma : M AV} (h : SF X W e ma) : SI X W tg e (iSeq ma) := by
  obtain ⟨t, pt, qt⟩ := h.ex
  refine ⟨_, PI_or (pi_list pt) (PI_or (pi_tup pt) (pi_str pt)), fun g hw F ρ σ H R rel z => ?_⟩
  unfold iSeq at z
  -- which of the three it is hangs on the value
  have key : ∀ {P : V → Hp → Prop} {ok : Dv → Prop}, (∀ v F' ρ' H' d, Ext F F' → Rel X.K g F' ρ' σ H' → Rep X.K F' d v → RP (M.opt (walk? d) ρ') (fun ds ρ' => ∀ J F'' H'', Ext F F'' → Rel X.K g F'' ρ' σ H'' → ItOk X.K J F'' ds → R J H'') (exE X g F W) → ok d → P v H') →
      (∀ av ρ1 d ρ2, ma ρ = .ok av ρ1 → ali av ρ1 = .ok d ρ2 → ok d) → t σ H P := fun {P ok} hP hok => by
    rw [RP_bnd] at z
    cases hm : ma ρ with
    | bad => rw [hm] at z; exact z.elim
    | exc er ρ1 => rw [hm] at z; refine qt g hw F ρ σ H _ rel ?_; rw [hm]; exact z
    | ok av ρ1 =>
      rw [hm] at z
      refine qt g hw F ρ σ H _ rel ?_
      rw [hm]
      intro v F1 H1 e1 rel1 ok1
      have z1 : RP ((ali av >>= fun d => M.opt (walk? d)) ρ1) _ _ := z
      rw [RP_bnd] at z1
      cases ha : ali av ρ1 with
      | bad => rw [ha] at z1; exact z1.elim
      | exc er ρ2 => 
        rw [ha] at z1
        exfalso
        unfold ali at ha
        split at ha
        · cases ha
        · split at ha <;> cases ha
      | ok d ρ2 =>
        obtain ⟨d', F2, ρ2', e2, r2, h2, z2⟩ := ali_ok rel1 ok1 (ok := fun d' ρ' => d' = d ∧ ρ' = ρ2) (ex := fun _ _ => False) (by rw [ha]; exact ⟨rfl, rfl⟩)
        obtain ⟨rfl, rfl⟩ := z2
        rw [ha] at z1
        exact hP v F2 ρ2' H1 d' (e1.trans e2) r2 h2 z1 (hok av ρ1 d' ρ2' hm ha)
  cases hm : ma ρ with
  | bad => rw [RP_bnd, hm] at z; exact z.elim
  | exc er ρ1 => exact .inl (key (ok := fun _ => False) (fun v F' ρ' H' d _ _ _ _ k => k.elim) fun av ρ1' d ρ2 h1 => by rw [hm] at h1; cases h1)
  | ok av ρ1 =>
    cases ha : ali av ρ1 with
    | bad =>
      rw [RP_bnd, hm] at z
      have z1 : RP ((ali av >>= fun d => M.opt (walk? d)) ρ1) _ _ := z
      rw [RP_bnd, ha] at z1
      exact z1.elim
    | exc er ρ2 =>
      exfalso
      unfold ali at ha
      split at ha
      · cases ha
      · split at ha <;> cases ha
    | ok d ρ2 =>
      have hok : ∀ av' ρ1' d' ρ2', ma ρ = .ok av' ρ1' → ali av' ρ1' = .ok d' ρ2' → d' = d := fun av' ρ1' d' ρ2' h1 h2 => by
        rw [hm] at h1; cases h1
        rw [ha] at h2; cases h2
        rfl
      cases d with
      | lst xs =>
        refine .inl (key (ok := fun d' => d' = .lst xs) (fun v F' ρ' H' d' e1 r1 h1 z1 k => ?_) hok)
        subst k
        cases h1 with
        | @lst a _ vs k1 k2 => exact ⟨a, rfl, ⟨vs, SqL.of (r1.ext _ _ k1)⟩, z1 _ F' H' e1 r1 (itOk_list (SqL.of k1) k2)⟩
      | rls xs =>
        refine .inl (key (ok := fun d' => d' = .rls xs) (fun v F' ρ' H' d' e1 r1 h1 z1 k => ?_) hok)
        subst k
        cases h1 with
        | @rls a _ vs k1 k2 => exact ⟨a, rfl, ⟨vs, SqL.ext r1.ext k1⟩, z1 _ F' H' e1 r1 (itOk_list k1 k2)⟩
      | tup xs =>
        refine .inr (.inl (key (ok := fun d' => d' = .tup xs) (fun v F' ρ' H' d' e1 r1 h1 z1 k => ?_) hok))
        subst k
        cases h1 with
        | @tup a _ vs k1 k2 => exact ⟨a, rfl, ⟨vs, SqT.ext r1.ext k1⟩, z1 _ F' H' e1 r1 (itOk_tup k1 k2)⟩
      | str x =>
        refine .inr (.inr (key (ok := fun d' => d' = .str x) (fun v F' ρ' H' d' e1 r1 h1 z1 k => ?_) hok))
        subst k
        cases h1
        exact ⟨x, rfl, z1 _ F' H' e1 r1 itOk_str⟩
      | _ =>
        rw [RP_bnd, hm] at z
        have z1 : RP ((ali av >>= fun d => M.opt (walk? d)) ρ1) _ _ := z
        rw [RP_bnd, ha] at z1
        exact z1.elim
/-- range -/
def rng (lo : Int) (n : Nat) : List Dv := (List.range n).map fun i : Nat => Dv.int (lo + i)
theorem itOk_rng {K : PySem.W.Frag} {F : Hp} {lo : Int} {n : Nat} : ItOk K (Itr lo n) F (rng lo n) where
  stop := fun F1 H1 e1 e2 => by show n ≤ (rng lo n).length; simp [rng]
  go := fun i F1 H1 hi e1 e2 => by show i < n; simpa [rng] using hi
  yld := fun i d F1 H1 y H2 hd e1 e2 hy => by
    obtain ⟨rfl, rfl⟩ := hy
    refine .inl ⟨rfl, ?_⟩
    unfold rng at hd
    rw [List.getElem?_map] at hd
    cases q : (List.range n)[i]? with
    | none => rw [q] at hd; cases hd
    | some j =>
      rw [q] at hd; cases hd
      have : j = i := by
        rw [List.getElem?_range] at q
        · cases q; rfl
        · rcases Nat.lt_or_ge i n with h | h
          · exact h
          · rw [List.getElem?_eq_none (by simpa using h)] at q; cases q
      subst this
      exact .int _
def iRange1 (ma : M (List AV)) : M (List Dv) := do
  let as ← ma
  let ds ← conL as
  let ns ← M.opt (ints? ds)
  match ns with
  | [j] => do
    M.grd (-(2 ^ 62) ≤ j ∧ j < 2 ^ 62)
    pure (rng 0 j.toNat)
  | _ => M.bad
def iRange2 (ma : M (List AV)) : M (List Dv) := do
  let as ← ma
  let ds ← conL as
  let ns ← M.opt (ints? ds)
  match ns with
  | [i, j] => do
    M.grd (-(2 ^ 62) ≤ i ∧ i < 2 ^ 62 ∧ -(2 ^ 62) ≤ j ∧ j < 2 ^ 62)
    pure (rng i (j - i).toNat)
  | _ => M.bad
/-- lo, lo + c, .. -/
def rngC (lo c : Int) (n : Nat) : List Dv := (List.range n).map fun i : Nat => Dv.int (lo + i * c)
def iRange3 (ma : M (List AV)) : M (List Dv) := do
  let as ← ma
  let ds ← conL as
  let ns ← M.opt (ints? ds)
  match ns with
  | [i, j, c] => do
    M.grd (c ≠ 0 ∧ c.natAbs < 1073741824 ∧ Builtin.Range.small i j c = true ∧ 0 ≤ Builtin.Range.rangeSize i j c)
    pure (rngC i c (Builtin.Range.rangeSize i j c).toNat)
  | _ => M.bad
theorem itOk_rngC {K : PySem.W.Frag} {F : Hp} {lo c : Int} {n : Nat} : ItOk K (Itc lo c n) F (rngC lo c n) where
  stop := fun F1 H1 e1 e2 => by show n ≤ (rngC lo c n).length; simp [rngC]
  go := fun i F1 H1 hi e1 e2 => by show i < n; simpa [rngC] using hi
  yld := fun i d F1 H1 y H2 hd e1 e2 hy => by
    obtain ⟨rfl, rfl⟩ := hy
    refine .inl ⟨rfl, ?_⟩
    unfold rngC at hd
    rw [List.getElem?_map] at hd
    cases q : (List.range n)[i]? with
    | none => rw [q] at hd; cases hd
    | some j =>
      rw [q] at hd; cases hd
      have : j = i := by
        rw [List.getElem?_range] at q
        · cases q; rfl
        · rcases Nat.lt_or_ge i n with h | h
          · exact h
          · rw [List.getElem?_eq_none (by simpa using h)] at q; cases q
      subst this
      exact .int _
theorem tops_ints {K : PySem.W.Frag} {F H : Hp} : ∀ {ns : List Int} {vs : List V}, Paired (Top K F H) (ns.map Dv.int) vs → vs = ns.map V.int
  | [], _, h => by rw [List.map_nil] at h; cases h; rfl
  | n :: ns, _, h => by
    rw [List.map_cons] at h
    cases h with
    | cons a t => rw [a.int, tops_ints t, List.map_cons]
theorem si_range1 {tg a : Expr} {ma : M (List AV)} (hg : Gl X "range") (hm : X.mg "range" = none) (ha : SA X W [a] ma) (hs : starEach [a] X.env = [(false, eval a X.env)] := by rfl) : SI X W tg (.Call (.Name "range" p) [a] [] pos) (iRange1 ma) := by
  obtain ⟨t, pt, qt⟩ := ha.ex
  refine ⟨_, pi_range1 hg hm pt hs, fun g hw F ρ σ H R rel z => ?_⟩
  unfold iRange1 at z
  rw [RP_bnd] at z
  refine qt g hw F ρ σ H _ rel (z.imp (fun as ρ1 z1 => ?_) fun _ _ k => k)
  intro vs F1 H1 e1 rel1 ok1
  rw [RP_bnd] at z1
  obtain ⟨ds, h1, z2⟩ := conL_ok rel1 ok1 z1
  rw [RP_bnd] at z2
  obtain ⟨ns, hn, z3⟩ := RP_opt z2
  obtain rfl := ints?_eq hn
  obtain rfl := tops_ints h1
  split at z3
  · rw [RP_bnd] at z3
    obtain ⟨⟨k1, k2⟩, z4⟩ := RP_grd z3
    exact ⟨_, rfl, k1, k2, z4 _ F1 H1 e1 rel1 itOk_rng⟩
  · exact z3.elim
theorem si_range2 {tg a b : Expr} {ma : M (List AV)} (hg : Gl X "range") (hm : X.mg "range" = none) (ha : SA X W [a, b] ma) (hs : starEach [a, b] X.env = [(false, eval a X.env), (false, eval b X.env)] := by rfl)
    (hs2 : starEach [b] X.env = [(false, eval b X.env)] := by rfl) : SI X W tg (.Call (.Name "range" p) [a, b] [] pos) (iRange2 ma) := by
  obtain ⟨t, pt, qt⟩ := ha.ex
  refine ⟨_, pi_range2 hg hm pt hs hs2, fun g hw F ρ σ H R rel z => ?_⟩
  unfold iRange2 at z
  rw [RP_bnd] at z
  refine qt g hw F ρ σ H _ rel (z.imp (fun as ρ1 z1 => ?_) fun _ _ k => k)
  intro vs F1 H1 e1 rel1 ok1
  rw [RP_bnd] at z1
  obtain ⟨ds, h1, z2⟩ := conL_ok rel1 ok1 z1
  rw [RP_bnd] at z2
  obtain ⟨ns, hn, z3⟩ := RP_opt z2
  obtain rfl := ints?_eq hn
  obtain rfl := tops_ints h1
  split at z3
  · rw [RP_bnd] at z3
    obtain ⟨k1, z4⟩ := RP_grd z3
    exact ⟨_, _, rfl, k1, z4 _ F1 H1 e1 rel1 itOk_rng⟩
  · exact z3.elim
theorem si_range3 {tg a b c : Expr} {ma : M (List AV)} (hg : Gl X "range") (hm : X.mg "range" = none) (ha : SA X W [a, b, c] ma) (hs : starEach [a, b, c] X.env = (false, eval a X.env) :: starEach [b, c] X.env := by rfl)
    (hpl : (backTo pos (starEach [b, c] X.env)).any (·.1) = false := by rfl) : SI X W tg (.Call (.Name "range" p) [a, b, c] [] pos) (iRange3 ma) := by
  obtain ⟨t, pt, qt⟩ := ha.ex
  refine ⟨_, pi_range3 hg hm pt hs hpl, fun g hw F ρ σ H R rel z => ?_⟩
  unfold iRange3 at z
  rw [RP_bnd] at z
  refine qt g hw F ρ σ H _ rel (z.imp (fun as ρ1 z1 => ?_) fun _ _ k => k)
  intro vs F1 H1 e1 rel1 ok1
  rw [RP_bnd] at z1
  obtain ⟨ds, h1, z2⟩ := conL_ok rel1 ok1 z1
  rw [RP_bnd] at z2
  obtain ⟨ns, hn, z3⟩ := RP_opt z2
  obtain rfl := ints?_eq hn
  obtain rfl := tops_ints h1
  split at z3
  · rw [RP_bnd] at z3
    obtain ⟨⟨k1, k2, k3, k4⟩, z4⟩ := RP_grd z3
    exact ⟨_, _, _, _, rfl, ⟨k1, k2, k3, (Int.toNat_of_nonneg k4).symm⟩, z4 _ F1 H1 e1 rel1 itOk_rngC⟩
  · exact z3.elim
/-- enumerate of a list -/
def enumD (xs : List Dv) : List Dv := xs.zipIdx.map fun p => Dv.tup [.int p.2, p.1]
def iEnumL (ma : M (List AV)) : M (List Dv) := do
  let as ← ma
  let ds ← aliL as
  match ds with
  | [.lst xs] => pure (enumD xs)
  | [.rls xs] => pure (enumD xs)
  | _ => M.bad
theorem enumD_at {xs : List Dv} {i : Nat} {d : Dv} (h : (enumD xs)[i]? = some d) : ∃ x, xs[i]? = some x ∧ d = .tup [.int (i : Nat), x] := by
  unfold enumD at h
  rw [List.getElem?_map, List.getElem?_zipIdx] at h
  cases q : xs[i]? with
  | none => rw [q] at h; cases h
  | some x =>
    rw [q] at h; cases h
    exact ⟨x, rfl, by simp⟩
theorem itOk_enum {K : PySem.W.Frag} {F : Hp} {a : Addr} {vs : List V} {ds : List Dv} (h : SqL K F a vs) (r : Reps K F ds vs) : ItOk K (Ite K a) F (enumD ds) where
  stop := fun F1 H1 e1 e2 => ⟨vs, SqL.ext e2 (SqL.ext e1 h), by simp [enumD, r.length]⟩
  go := fun i F1 H1 hi e1 e2 => ⟨vs, vs[i]'(by rw [← r.length]; simpa [enumD] using hi), SqL.ext e2 (SqL.ext e1 h), List.getElem?_eq_getElem _⟩
  yld := fun i d F1 H1 x H2 hd e1 e2 hy => by
    obtain ⟨T, y, rfl, hT, rfl, k⟩ := hy
    obtain ⟨z, hz, rfl⟩ := enumD_at hd
    obtain ⟨v, h1, h2⟩ := r.get hz
    have := k vs (SqL.ext e2 (SqL.ext e1 h))
    rw [h1] at this; cases this
    exact .inr ⟨T, _, _, rfl, hT, rfl, rfl, .cons (.int _) (.cons (h2.mono e1) .nil)⟩
theorem rep1 {K : PySem.W.Frag} {F : Hp} {d : Dv} {vs : List V} (h : Reps K F [d] vs) : ∃ v, vs = [v] ∧ Rep K F d v := by
  cases h with
  | cons a t => cases t; exact ⟨_, rfl, a⟩
theorem rep2 {K : PySem.W.Frag} {F : Hp} {d d' : Dv} {vs : List V} (h : Reps K F [d, d'] vs) : ∃ v u, vs = [v, u] ∧ Rep K F d v ∧ Rep K F d' u := by
  cases h with
  | cons a t =>
    obtain ⟨u, rfl, k⟩ := rep1 t
    exact ⟨_, u, rfl, a, k⟩
theorem Rep.lstI {K : PySem.W.Frag} {F : Hp} {xs : List Dv} {v : V} (h : Rep K F (.lst xs) v) : ∃ a vs, v = .ref a ∧ F a = some (.lst vs) ∧ Reps K F xs vs := by
  cases h with
  | lst a b => exact ⟨_, _, rfl, a, b⟩
theorem Rep.rlsI {K : PySem.W.Frag} {F : Hp} {xs : List Dv} {v : V} (h : Rep K F (.rls xs) v) : ∃ a vs, v = .ref a ∧ SqL K F a vs ∧ Reps K F xs vs := by
  cases h with
  | rls a b => exact ⟨_, _, rfl, a, b⟩
theorem si_enum {a : Expr} {tpos : Pos} {elts : List Expr} {kk : Nat} {ma : M (List AV)} (hg : Gl X "enumerate") (hm : X.mg "enumerate" = none) (ha : SA X W [a] ma) (hs : starEach [a] X.env = [(false, eval a X.env)] := by rfl) : SI X W (.Tuple elts kk tpos) (.Call (.Name "enumerate" p) [a] [] pos) (iEnumL ma) := by
  obtain ⟨t, pt, qt⟩ := ha.ex
  refine ⟨_, pi_enum hg hm pt hs, fun g hw F ρ σ H R rel z => ?_⟩
  unfold iEnumL at z
  rw [RP_bnd] at z
  refine qt g hw F ρ σ H _ rel (z.imp (fun as ρ1 z1 => ?_) fun _ _ k => k)
  intro vs F1 H1 e1 rel1 ok1
  rw [RP_bnd] at z1
  obtain ⟨ds, F2, ρ2, e2, r2, h2, z2⟩ := aliL_ok rel1 ok1 z1
  split at z2
  · obtain ⟨v, rfl, h3⟩ := rep1 h2
    obtain ⟨a, us, rfl, k1, k2⟩ := h3.lstI
    exact ⟨a, us, rfl, SqL.of (r2.ext _ _ k1), z2 _ F2 H1 (e1.trans e2) r2 (itOk_enum (SqL.of k1) k2)⟩
  · obtain ⟨v, rfl, h3⟩ := rep1 h2
    obtain ⟨a, us, rfl, k1, k2⟩ := h3.rlsI
    exact ⟨a, us, rfl, SqL.ext r2.ext k1, z2 _ F2 H1 (e1.trans e2) r2 (itOk_enum k1 k2)⟩
  · exact z2.elim
/-- zip of two lists -/
def zipD (xs ys : List Dv) : List Dv := (xs.zip ys).map fun p => Dv.tup [p.1, p.2]
def iZipL (ma : M (List AV)) : M (List Dv) := do
  let as ← ma
  let ds ← aliL as
  match ds with
  | [.lst xs, .lst ys] => pure (zipD xs ys)
  | _ => M.bad
theorem zipD_at {xs ys : List Dv} {i : Nat} {d : Dv} (h : (zipD xs ys)[i]? = some d) : ∃ x y, xs[i]? = some x ∧ ys[i]? = some y ∧ d = .tup [x, y] := by
  unfold zipD at h
  rw [List.getElem?_map] at h
  cases q : (xs.zip ys)[i]? with
  | none => rw [q] at h; cases h
  | some p =>
    rw [q] at h; cases h
    obtain ⟨h1, h2⟩ := List.getElem?_zip_eq_some.mp q
    exact ⟨p.1, p.2, h1, h2, rfl⟩
theorem itOk_zip {K : PySem.W.Frag} {F : Hp} {a b : Addr} {vs us : List V} {ds es : List Dv} (h : SqL K F a vs) (h' : SqL K F b us) (r : Reps K F ds vs) (r' : Reps K F es us) : ItOk K (Itz K a b) F (zipD ds es) where
  stop := fun F1 H1 e1 e2 => ⟨vs, us, SqL.ext e2 (SqL.ext e1 h), SqL.ext e2 (SqL.ext e1 h'), by
    have : (zipD ds es).length = min ds.length es.length := by simp [zipD]
    rw [this, r.length, r'.length]
    omega⟩
  go := fun i F1 H1 hi e1 e2 => by
    have : (zipD ds es).length = min ds.length es.length := by simp [zipD]
    rw [this, r.length, r'.length] at hi
    exact ⟨vs, us, vs[i]'(by omega), us[i]'(by omega), SqL.ext e2 (SqL.ext e1 h), SqL.ext e2 (SqL.ext e1 h'), List.getElem?_eq_getElem _, List.getElem?_eq_getElem _⟩
  yld := fun i d F1 H1 x H2 hd e1 e2 hy => by
    obtain ⟨T, y, z, rfl, hT, rfl, k, k'⟩ := hy
    obtain ⟨p, q, hp, hq, rfl⟩ := zipD_at hd
    obtain ⟨v, h1, h2⟩ := r.get hp
    obtain ⟨u, h3, h4⟩ := r'.get hq
    have z1 := k vs (SqL.ext e2 (SqL.ext e1 h))
    rw [h1] at z1; cases z1
    have z2 := k' us (SqL.ext e2 (SqL.ext e1 h'))
    rw [h3] at z2; cases z2
    exact .inr ⟨T, _, _, rfl, hT, rfl, rfl, .cons (h2.mono e1) (.cons (h4.mono e1) .nil)⟩
theorem si_zip {a b : Expr} {tpos : Pos} {elts : List Expr} {kk : Nat} {ma : M (List AV)} (hg : Gl X "zip") (hm : X.mg "zip" = none) (ha : SA X W [a, b] ma) (hs : starEach [a, b] X.env = (false, eval a X.env) :: starEach [b] X.env := by rfl)
    (hpl : (backTo pos (starEach [b] X.env)).any (·.1) = false := by rfl) : SI X W (.Tuple elts kk tpos) (.Call (.Name "zip" p) [a, b] [] pos) (iZipL ma) := by
  obtain ⟨t, pt, qt⟩ := ha.ex
  refine ⟨_, pi_zip hg hm pt hs hpl, fun g hw F ρ σ H R rel z => ?_⟩
  unfold iZipL at z
  rw [RP_bnd] at z
  refine qt g hw F ρ σ H _ rel (z.imp (fun as ρ1 z1 => ?_) fun _ _ k => k)
  intro vs F1 H1 e1 rel1 ok1
  rw [RP_bnd] at z1
  obtain ⟨ds, F2, ρ2, e2, r2, h2, z2⟩ := aliL_ok rel1 ok1 z1
  split at z2
  · obtain ⟨v, u, rfl, h3, h4⟩ := rep2 h2
    obtain ⟨a, us, rfl, k1, k2⟩ := h3.lstI
    obtain ⟨b, ws, rfl, k3, k4⟩ := h4.lstI
    exact ⟨a, b, us, ws, rfl, SqL.of (r2.ext _ _ k1), SqL.of (r2.ext _ _ k3), z2 _ F2 H1 (e1.trans e2) r2 (itOk_zip (SqL.of k1) (SqL.of k3) k2 k4)⟩
  · exact z2.elim

/-! ### comprehensions -/
/-- the slots agree where the environment knows something -/
theorem Rel.rebase {K : PySem.W.Frag} {g : Gx} {F H : Hp} {ρ : VE} {σ σ' : L2.St} (r : Rel K g F ρ σ H) (hl : σ'.length = σ.length) (h : ∀ (j : Nat) (s : Sl), ρ[j]? = some s → s ≠ .no → σ'[j]? = σ[j]?) : Rel K g F ρ σ' H where
  ext := r.ext
  f0 := r.f0
  new := r.new
  keep := r.keep
  dom := r.dom
  io := fun i p e => by
    obtain ⟨h1, d, h2⟩ := r.io i p e
    rw [h i _ h2 (fun z => by cases z)]; exact ⟨h1, d, h2⟩
  own := by
    obtain ⟨Rs, w⟩ := r.own
    refine ⟨Rs, { len := by rw [hl]; exact w.len, lenR := w.lenR, ok := fun i s x R h1 h2 h3 => ?_, nd := w.nd, dis := w.dis, out := w.out, hel := w.hel }⟩
    by_cases hs : s = .no
    · subst hs
      obtain ⟨x', R', _, k2, k3⟩ := w.at' h1
      rw [h3] at k2; cases k2
      exact k3
    · exact w.ok i s x R h1 (by rw [← h i s h1 hs]; exact h2) h3
/-- a slot is forgotten -/
theorem Rel.forget {K : PySem.W.Frag} {g : Gx} {F H : Hp} {ρ : VE} {σ : L2.St} {i : Nat} (r : Rel K g F ρ σ H) (hn : ∀ e, ρ[i]? ≠ some (Sl.mu true e)) : Rel K g F (ρ.set i Sl.no) σ H := r.dropSl hn
def wipeE (ρ : VE) : List Nat → VE
  | [] => ρ
  | i :: is => (wipeE ρ is).set i .no
def isIo : Option Sl → Bool
  | some (.mu true _) => true
  | _ => false
/-- the block's own slots are forgotten -/
def wipeM (vs : List Nat) : M Unit := fun ρ => if vs.any (fun i => isIo (ρ[i]? : Option Sl)) = true then .bad else .ok () (wipeE ρ vs)
theorem wipeE_io {i : Nat} : ∀ {ρ : VE} {vs : List Nat}, isIo ((wipeE ρ vs)[i]? : Option Sl) = true → isIo (ρ[i]? : Option Sl) = true
  | _, [], h => h
  | ρ, v :: vs, h => by
    unfold wipeE at h
    rw [List.getElem?_set] at h
    split at h
    · split at h <;> cases h
    · exact wipeE_io h
theorem Rel.wipeE {K : PySem.W.Frag} {g : Gx} {F H : Hp} {ρ : VE} {σ : L2.St} (r : Rel K g F ρ σ H) : ∀ {vs : List Nat}, vs.any (fun i => isIo (ρ[i]? : Option Sl)) = false → Rel K g F (wipeE ρ vs) σ H
  | [], _ => r
  | v :: vs, h => by
    rw [List.any_cons, Bool.or_eq_false_iff] at h
    refine (Rel.wipeE r h.2).forget fun e q => ?_
    have := wipeE_io (ρ := ρ) (vs := vs) (i := v) (by rw [q]; rfl)
    rw [this] at h; cases h.1
theorem wipeE_at {ρ : VE} : ∀ {vs : List Nat} {j : Nat} {s : Sl}, (wipeE ρ vs)[j]? = some s → s ≠ .no → j ∉ vs
  | [], _, _, _, _ => List.not_mem_nil
  | v :: vs, j, s, h, n => by
    unfold wipeE at h
    rw [List.getElem?_set] at h
    split at h
    · split at h
      · cases h; exact absurd rfl n
      · cases h
    · rename_i hv
      intro hm
      rcases List.mem_cons.mp hm with z | z
      · exact hv z.symm
      · exact wipeE_at h n z
theorem wipe_at {σ : L2.St} : ∀ {vs : List Nat} {j : Nat}, j ∉ vs → (wipe σ vs)[j]? = σ[j]?
  | [], _, _ => rfl
  | v :: vs, j, h => by
    unfold wipe
    rw [List.getElem?_set_ne (fun z => h (by rw [z]; exact List.mem_cons_self))]
    exact wipe_at (fun z => h (List.mem_cons_of_mem _ z))
theorem wipe_congr {σ σ' : L2.St} {vs : List Nat} (hl : σ'.length = σ.length) (h : ∀ j, j ∉ vs → σ'[j]? = σ[j]?) : wipe σ' vs = wipe σ vs := by
  refine List.ext_getElem? fun j => ?_
  by_cases hj : j ∈ vs
  · have : ∀ (τ : L2.St) (us : List Nat), j ∈ us → (wipe τ us)[j]? = if j < τ.length then some none else none := by
      intro τ us
      induction us with
      | nil => intro h; cases h
      | cons u us ih =>
        intro h
        unfold wipe
        by_cases z : u = j
        · subst z
          rw [List.getElem?_set, if_pos rfl, wipe_length]
        · rw [List.getElem?_set_ne z]
          rcases List.mem_cons.mp h with q | q
          · exact absurd q.symm z
          · exact ih q
    rw [this _ _ hj, this _ _ hj, hl]
  · rw [wipe_at hj, wipe_at hj, h j hj]
/-- the turns -/
def compL (vs : List Nat) (mg : Dv → M Unit) (mt : M Bool) (me : M AV) : List Dv → List Dv → M (List Dv)
  | [], acc => do
    wipeM vs
    pure acc
  | d :: ds, acc => do
    wipeM vs
    mg d
    let b ← mt
    if b = true then do
      let a ← me
      let y ← ali a
      M.grd (acc.length < sizeLine)
      compL vs mg mt me ds (acc ++ [y])
    else compL vs mg mt me ds acc
def noX {α : Type} (m : M α) : M α := fun ρ => match m ρ with
  | .ok a ρ' => .ok a ρ'
  | .exc _ _ => .bad
  | .bad => .bad
theorem RP_noX {α : Type} {m : M α} {ρ : VE} {ok : α → VE → Prop} {ex : Er → VE → Prop} (h : RP (noX m ρ) ok ex) : RP (m ρ) ok (fun _ _ => False) := by
  unfold noX at h
  cases q : m ρ with
  | ok a ρ' => rw [q] at h; exact h
  | exc e ρ' => rw [q] at h; exact h.elim
  | bad => rw [q] at h; exact h.elim
def eComp (vs : List Nat) (mi : M (List Dv)) (mg : Dv → M Unit) (mt : M Bool) (me : M AV) : M RV := do
  let ds ← mi
  let r ← noX (compL vs mg mt me ds [])
  pure (.fr (.lst r))
theorem wipeM_ok {vs : List Nat} {ρ : VE} {ok : Unit → VE → Prop} {ex : Er → VE → Prop} (h : RP (wipeM vs ρ) ok ex) : vs.any (fun i => isIo (ρ[i]? : Option Sl)) = false ∧ ok () (wipeE ρ vs) := by
  unfold wipeM at h
  split at h
  · exact h.elim
  · rename_i c
    exact ⟨Bool.eq_false_iff.mpr c, h⟩
theorem compL_wipe {vs : List Nat} {mg : Dv → M Unit} {mt : M Bool} {me : M AV} {ds acc : List Dv} {ρ : VE} {ok : List Dv → VE → Prop} {ex : Er → VE → Prop} (h : RP (compL vs mg mt me ds acc ρ) ok ex) : vs.any (fun i => isIo (ρ[i]? : Option Sl)) = false := by
  cases ds with
  | nil =>
    unfold compL at h
    rw [RP_bnd] at h
    exact (wipeM_ok h).1
  | cons d ds =>
    unfold compL at h
    rw [RP_bnd] at h
    exact (wipeM_ok h).1
/-- no exception leaves a block -/
abbrev W0 : Wh := ⟨fun _ _ _ _ => False, fun _ => True⟩
theorem SF.can {m : M AV} (h : SF X W0 e m) : PE X e (fun σ H Q => ∃ g F ρ, Rel X.K g F ρ σ H ∧ RP (m ρ) (okF X g F σ Q) (exE X g F W0)) := by
  obtain ⟨t, pt, qt⟩ := h.ex
  exact ⟨fun pins s σ H Q I ⟨g, F, ρ, r, z⟩ => pt.run pins s σ H Q I (qt g True.intro F ρ σ H Q r z)⟩
theorem STt.can {m : M Bool} (h : STt X W0 e m) : PT X e (fun σ H Q => ∃ g F ρ, Rel X.K g F ρ σ H ∧ RP (m ρ) (okT X g F σ Q) (exE X g F W0)) := by
  obtain ⟨t, pt, qt⟩ := h.ex
  exact ⟨fun pins s σ H Q I ⟨g, F, ρ, r, z⟩ => pt.run pins s σ H Q I (qt g True.intro F ρ σ H Q r z)⟩
theorem SG.can {sl : List Nat} {mg : Dv → M Unit} (h : SG X e sl mg) : PG X e (fun v σ H Q => ∃ g F ρ d ex, Rel X.K g F ρ σ H ∧ Rep X.K F d v ∧ RP (mg d ρ) (okV X g F σ sl Q) ex) := by
  obtain ⟨t, pt, qt⟩ := h.ex
  exact ⟨fun pins s σ H v u Q I rv ⟨g, F, ρ, d, ex, r, hd, z⟩ => pt.run pins s σ H v u Q I rv (qt g F ρ σ H v d Q ex r hd z)⟩
/-- a block's tests -/
structure STs (X : Cx) (W : Wh) (ifs : List Expr) (m : M Bool) : Prop where
  ex : ∃ t, PTs X ifs t ∧ ∀ g, W.p g → ∀ F ρ σ H Q, Rel X.K g F ρ σ H → RP (m ρ) (okT X g F σ Q) (exE X g F W) → t σ H Q
theorem sts_nil : STs X W [] (pure true) := ⟨tYes, pts_nil, fun g hw F ρ σ H Q rel z => z F H (Ext.refl F) rel⟩
theorem sts_one {m : M Bool} (h : STt X W c m) : STs X W [c] m := by
  obtain ⟨t, pt, qt⟩ := h.ex
  exact ⟨t, pts_one pt, qt⟩
theorem STs.can {ifs : List Expr} {m : M Bool} (h : STs X W0 ifs m) : PTs X ifs (fun σ H Q => ∃ g F ρ, Rel X.K g F ρ σ H ∧ RP (m ρ) (okT X g F σ Q) (exE X g F W0)) := by
  obtain ⟨t, pt, qt⟩ := h.ex
  exact ⟨fun pins s σ H Q I ⟨g, F, ρ, r, z⟩ => pt.run pins s σ H Q I (qt g True.intro F ρ σ H Q r z)⟩
/-- the readings of a block's parts -/
def cE (X : Cx) (m : M AV) : TE := fun σ H Q => ∃ g F ρ, Rel X.K g F ρ σ H ∧ RP (m ρ) (okF X g F σ Q) (exE X g F W0)
def cT (X : Cx) (m : M Bool) : TT := fun σ H Q => ∃ g F ρ, Rel X.K g F ρ σ H ∧ RP (m ρ) (okT X g F σ Q) (exE X g F W0)
def cG (X : Cx) (sl : List Nat) (mg : Dv → M Unit) : TG := fun v σ H Q => ∃ g F ρ d ex, Rel X.K g F ρ σ H ∧ Rep X.K F d v ∧ RP (mg d ρ) (okV X g F σ sl Q) ex
theorem comp_sem {wi : TI} {mi : M (List Dv)} {sl vs : List Nat} {mg : Dv → M Unit} {mt : M Bool} {me : M AV} (hs : ∀ i ∈ sl, i ∈ vs) (g : Gx) (F : Hp) (ρ : VE) (σ : L2.St) (H : Hp) (Q : VK)
    (qi : ∀ R, RP (mi ρ) (fun ds ρ' => ∀ J F' H', Ext F F' → Rel X.K g F' ρ' σ H' → ItOk X.K J F' ds → R J H') (exE X g F W) → wi σ H R)
    (z : RP (eComp vs mi mg mt me ρ) (okE X g F σ Q) (exE X g F W)) : tLc wi (cG X sl mg) (cT X mt) (cE X me) vs σ H Q := by
  unfold eComp at z
  rw [RP_bnd] at z
  refine qi _ (z.imp (fun ds ρ1 z1 => ?_) fun _ _ k => k)
  intro J F1 H1 e1 rel1 it D hD
  rw [RP_bnd] at z1
  have z2 := RP_noX z1
  refine ⟨fun i m H => m + i = ds.length ∧ i ≤ ds.length ∧ ∃ F2 ρ2 acc vsA, Ext F1 F2 ∧ Rel X.K (g.hold (one D (.lst vsA))) F2 (wipeE ρ2 vs) σ H ∧ g.H0 D = none ∧ g.held D = none ∧ Reps X.K F2 acc vsA ∧
    RP (compL vs mg mt me (ds.drop i) acc ρ2) (fun a ρ' => RP ((pure (.fr (.lst a)) : M RV) ρ') (okE X g F σ Q) (exE X g F W)) (fun _ _ => False), ⟨ds.length, ?_⟩, ?_⟩
  · have c := compL_wipe z2
    exact ⟨rfl, Nat.zero_le _, F1, ρ1, [], [], Ext.refl F1, (rel1.allocH hD).wipeE c, rel1.freeH0 hD, rel1.noHeld hD, .nil, z2⟩
  · rintro i m H2 ⟨hm, hi, F2, ρ2, acc, vsA, e2, rel2, h0, hh, ra, z3⟩
    obtain ⟨hHD, hFD⟩ := rel2.heldAt
    rcases Nat.lt_or_ge i ds.length with hlt | hge
    · right
      refine ⟨it.go i F2 H2 hlt e2 rel2.ext, fun H' => ?_, ?_, ?_⟩
      · exact (m - 1) + (i + 1) = ds.length ∧ i + 1 ≤ ds.length ∧ ∃ F2 ρ2 acc vsA, Ext F1 F2 ∧ Rel X.K (g.hold (one D (.lst vsA))) F2 (wipeE ρ2 vs) σ H' ∧ g.H0 D = none ∧ g.held D = none ∧ Reps X.K F2 acc vsA ∧
          RP (compL vs mg mt me (ds.drop (i + 1)) acc ρ2) (fun a ρ' => RP ((pure (.fr (.lst a)) : M RV) ρ') (okE X g F σ Q) (exE X g F W)) (fun _ _ => False)
      · intro H' h'
        exact ⟨m - 1, by omega, h'⟩
      · intro x H3 hy
        have hd : ds[i]? = some ds[i] := List.getElem?_eq_getElem hlt
        have hdrop : ds.drop i = ds[i] :: ds.drop (i + 1) := List.drop_eq_getElem_cons hlt
        rw [hdrop] at z3
        unfold compL at z3
        rw [RP_bnd] at z3
        obtain ⟨cw, z4⟩ := wipeM_ok z3
        -- into the block
        have inB : Rel X.K (g.hold (one D (.lst vsA))) F2 (wipeE ρ2 vs) (wipe σ vs) H2 := rel2.rebase (wipe_length σ vs) fun j s hj hn => wipe_at (wipeE_at hj hn)
        have step : ∃ F3, Ext F2 F3 ∧ Rel X.K (g.hold (one D (.lst vsA))) F3 (wipeE ρ2 vs) (wipe σ vs) H3 ∧ Rep X.K F3 ds[i] x := by
          rcases it.yld i ds[i] F2 H2 x H3 hd e2 rel2.ext hy with ⟨rfl, hr⟩ | ⟨T, ws, es, rfl, hT, rfl, he, hr⟩
          · exact ⟨F2, Ext.refl F2, inB, hr⟩
          · have hF := inB.ext.none hT
            refine ⟨_, ext_upd hF, (inB.allocH hT).freeze (inB.freeH0 hT) (inB.noHeld hT), ?_⟩
            rw [he]
            exact .tup (SqT.of upd_same) (hr.mono (ext_upd hF))
        obtain ⟨F3, e3, rel3, hrep⟩ := step
        rw [RP_bnd] at z4
        refine ⟨_, F3, wipeE ρ2 vs, ds[i], _, rel3, hrep, z4.imp (fun _ ρ4 z5 => ?_) fun _ _ k => k⟩
        intro σ2 F4 H4 e4 rel4 l4 k4
        have agree : ∀ j, j ∉ vs → σ2[j]? = σ[j]? := fun j hj => by rw [k4 j (fun q => hj (hs j q)), wipe_at hj]
        have l2 : σ2.length = σ.length := by rw [l4, wipe_length]
        refine ⟨wipe_congr l2 agree, ?_⟩
        rw [RP_bnd] at z5
        refine ⟨_, F4, ρ4, rel4, z5.imp (fun b ρ5 z6 => ?_) fun _ _ k => k.elim⟩
        intro F5 H5 e5 rel5
        -- behind the turn
        have out : ∀ {F7 : Hp} {ρ7 : VE} {H7 : Hp} {acc' : List Dv} {vsA' : List V}, Rel X.K (g.hold (one D (.lst vsA'))) F7 ρ7 σ2 H7 → Ext F1 F7 → Reps X.K F7 acc' vsA' →
            RP (compL vs mg mt me (ds.drop (i + 1)) acc' ρ7) (fun a ρ' => RP ((pure (.fr (.lst a)) : M RV) ρ') (okE X g F σ Q) (exE X g F W)) (fun _ _ => False) →
            (m - 1) + (i + 1) = ds.length ∧ i + 1 ≤ ds.length ∧ ∃ F2 ρ2 acc vsA, Ext F1 F2 ∧ Rel X.K (g.hold (one D (.lst vsA))) F2 (wipeE ρ2 vs) σ H7 ∧ g.H0 D = none ∧ g.held D = none ∧ Reps X.K F2 acc vsA ∧
              RP (compL vs mg mt me (ds.drop (i + 1)) acc ρ2) (fun a ρ' => RP ((pure (.fr (.lst a)) : M RV) ρ') (okE X g F σ Q) (exE X g F W)) (fun _ _ => False) := by
          intro F7 ρ7 H7 acc' vsA' r7 e7 ra7 z7
          have c7 := compL_wipe z7
          exact ⟨by omega, by omega, F7, ρ7, acc', vsA', e7, (r7.wipeE c7).rebase l2.symm fun j s hj hn => (agree j (wipeE_at hj hn)).symm, h0, hh, ra7, z7⟩
        have E5 : Ext F1 F5 := ((e2.trans e3).trans e4).trans e5
        cases b with
        | false =>
          simp only [Bool.false_eq_true, if_false] at z6 ⊢
          exact out rel5 E5 (ra.mono ((e3.trans e4).trans e5)) z6
        | true =>
          simp only [if_pos] at z6 ⊢
          rw [RP_bnd] at z6
          refine ⟨_, F5, ρ5, rel5, z6.imp (fun av ρ6 z7 => ?_) fun _ _ k => k.elim⟩
          intro y F6 H6 e6 rel6 ok6
          rw [RP_bnd] at z7
          obtain ⟨dy, F7, ρ7, e7, r7, h7, z8⟩ := ali_ok rel6 ok6 z7
          rw [RP_bnd] at z8
          obtain ⟨hlen, z9⟩ := RP_grd z8
          refine ⟨vsA, r7.heldAt.1, by rw [← ra.length]; exact hlen, ?_⟩
          exact out (r7.writeH h0 hh) ((E5.trans e6).trans e7) ((ra.mono ((((e3.trans e4).trans e5).trans e6).trans e7)).append (.cons h7 .nil)) z9
    · left
      have hi' : i = ds.length := Nat.le_antisymm hi hge
      subst hi'
      refine ⟨it.stop F2 H2 e2 rel2.ext, ?_⟩
      rw [List.drop_length] at z3
      unfold compL at z3
      rw [RP_bnd] at z3
      obtain ⟨_, z4⟩ := wipeM_ok z3
      exact z4 (.ref D) F2 H2 (e1.trans e2) (rel2.unhold (one_held hh)) ⟨D, _, rfl, .lst ra, h0, hh, rel2⟩
end
end P0
end
section
set_option Elab.async false
set_option linter.all false
set_option maxRecDepth 100000
set_option maxHeartbeats 4000000
/-! P0, statements. -/
namespace P0
open PySem PySem.Spec L2
open PyProof.Rows hiding St

section
variable {X : Cx} {W : Wh} {a b c e iter tg elt : Expr} {es ifs : List Expr} {st : Stmt} {sts : List Stmt} {pos p : Pos} {scope : Scope}
theorem se_comp {call : Expr} {vs sl : List Nat} {mi : M (List Dv)} {mg : Dv → M Unit} {mt : M Bool} {me : M AV} (hi : SI X W tg iter mi)
    (hg : ∀ (s : Shared) (H : Hp) (C : Addr) (cl : List (Str × Addr)) (fp : List Addr), SG (X.blk s H scope (compEnvC scope cl C X.env) fp) tg sl mg)
    (ht : ∀ (s : Shared) (H : Hp) (C : Addr) (cl : List (Str × Addr)) (fp : List Addr), STs (X.blk s H scope (compEnvC scope cl C X.env) fp) W0 ifs mt)
    (he : ∀ (s : Shared) (H : Hp) (C : Addr) (cl : List (Str × Addr)) (fp : List Addr), SF (X.blk s H scope (compEnvC scope cl C X.env) fp) W0 elt me)
    (hs : ∀ i ∈ sl, i ∈ vs)
    (pb : ∀ (wi : TI) (g : TG) (tt : TT) (te : TE), PI X tg iter wi → (∀ (s : Shared) (H : Hp) (C : Addr) (cl : List (Str × Addr)) (fp : List Addr), PG (X.blk s H scope (compEnvC scope cl C X.env) fp) tg g) →
      (∀ (s : Shared) (H : Hp) (C : Addr) (cl : List (Str × Addr)) (fp : List Addr), PTs (X.blk s H scope (compEnvC scope cl C X.env) fp) ifs tt) →
      (∀ (s : Shared) (H : Hp) (C : Addr) (cl : List (Str × Addr)) (fp : List Addr), PE (X.blk s H scope (compEnvC scope cl C X.env) fp) elt te) → PE X call (tLc wi g tt te vs)) : SE X W call (eComp vs mi mg mt me) := by
  obtain ⟨w, pw, qw⟩ := hi.ex
  refine ⟨_, pb w (cG X sl mg) (cT X mt) (cE X me) pw (fun s H C cl fp => (hg s H C cl fp).can) (fun s H C cl fp => (ht s H C cl fp).can) (fun s H C cl fp => (he s H C cl fp).can), fun g hw F ρ σ H Q rel z => ?_⟩
  exact comp_sem (W := W) hs g F ρ σ H Q (fun R => qw g hw F ρ σ H R rel) z

/-! ### blocks -/
def sNil : M Fl := pure .nx
def sSeq (m n : M Fl) : M Fl := do
  let f ← m
  match f with
  | .nx => n
  | .bk => pure .bk
  | .ct => pure .ct
  | .rt r => pure (.rt r)
theorem ss_nil : SSs X W [] sNil := ⟨tNext, pss_nil, fun g hw F ρ σ H D rel z => z σ F H (Ext.refl F) rel⟩
theorem ss_cons {m n : M Fl} (h : SS X W st m) (h' : SSs X W sts n) : SSs X W (st :: sts) (sSeq m n) := by
  obtain ⟨t, pt, qt⟩ := h.ex
  obtain ⟨u, pu, qu⟩ := h'.ex
  refine ⟨_, pss_cons pt pu, fun g hw F ρ σ H D rel z => ?_⟩
  unfold sSeq at z
  rw [RP_bnd] at z
  refine qt g hw F ρ σ H _ rel (z.imp (fun f ρ1 z1 => ?_) fun _ _ k => k)
  intro σ1 F1 H1 e1 rel1
  cases f with
  | nx => exact qu g hw F1 ρ1 σ1 H1 D rel1 (z1.imp (fun _ _ k => k.ext e1) fun _ _ k => k.ext e1)
  | bk => exact z1 σ1 F1 H1 e1 rel1
  | ct => exact z1 σ1 F1 H1 e1 rel1
  | rt r => exact z1 σ1 F1 H1 e1 rel1
theorem ss_one {m : M Fl} (h : SS X W st m) : SSs X W [st] m := by
  obtain ⟨t, pt, qt⟩ := h.ex
  exact ⟨_, pss_one pt, qt⟩
theorem st_pass : SS X W (.Pass pos) sNil := ⟨tNext, ps_pass, fun g hw F ρ σ H D rel z => z σ F H (Ext.refl F) rel⟩
theorem st_doc {x j pos'} : SS X W (.Expr (.Constant (.str x) j pos) pos') sNil := ⟨tNext, ps_doc, fun g hw F ρ σ H D rel z => z σ F H (Ext.refl F) rel⟩
def sBreak : M Fl := pure .bk
def sCont : M Fl := pure .ct
theorem st_break : SS X W (.Break pos) sBreak := ⟨tBreak, ps_break, fun g hw F ρ σ H D rel z => z σ F H (Ext.refl F) rel⟩
theorem st_continue : SS X W (.Continue pos) sCont := ⟨tCont, ps_continue, fun g hw F ρ σ H D rel z => z σ F H (Ext.refl F) rel⟩
/-- an expression for its effect -/
def sExpr (m : M RV) : M Fl := do
  let _ ← m
  pure .nx
theorem st_expr {m : M RV} (h : SE X W e m) (hs : swapsWith e none pos.line X.env = pure false := by rfl) : SS X W (.Expr e pos) (sExpr m) := by
  obtain ⟨t, pt, qt⟩ := h.ex
  refine ⟨_, ps_expr pt hs, fun g hw F ρ σ H D rel z => ?_⟩
  unfold sExpr at z
  rw [RP_bnd] at z
  refine qt g hw F ρ σ H _ rel (z.imp (fun rv ρ1 z1 => ?_) fun _ _ k => k)
  intro v F1 H1 e1 rel1 _
  exact z1 σ F1 H1 e1 rel1
def sRet (m : M RV) : M Fl := do
  let r ← m
  pure (.rt r)
theorem st_ret {m : M RV} (h : SE X W e m) : SS X W (.Return (some e) pos) (sRet m) := by
  obtain ⟨t, pt, qt⟩ := h.ex
  refine ⟨_, ps_ret pt, fun g hw F ρ σ H D rel z => ?_⟩
  unfold sRet at z
  rw [RP_bnd] at z
  refine qt g hw F ρ σ H _ rel (z.imp (fun rv ρ1 z1 => ?_) fun _ _ k => k)
  intro v F1 H1 e1 rel1 ok1
  exact z1 σ F1 H1 e1 rel1 v ok1
def sRetN : M Fl := pure (.rt (.d .non))
theorem st_retN : SS X W (.Return none pos) sRetN := ⟨tRetN, ps_retN, fun g hw F ρ σ H D rel z => z σ F H (Ext.refl F) rel .non .non⟩
def sIf (c : M Bool) (m n : M Fl) : M Fl := do
  let b ← c
  if b = true then m else n
theorem st_if {k : M Bool} {m n : M Fl} {sa sb : List Stmt} (hc : STt X W c k) (h : SSs X W sa m) (h' : SSs X W sb n) : SS X W (.If c sa sb pos) (sIf k m n) := by
  obtain ⟨t0, p0, q0⟩ := hc.ex
  obtain ⟨t, pt, qt⟩ := h.ex
  obtain ⟨u, pu, qu⟩ := h'.ex
  refine ⟨_, ps_if p0 pt pu, fun g hw F ρ σ H D rel z => ?_⟩
  unfold sIf at z
  rw [RP_bnd] at z
  refine q0 g hw F ρ σ H _ rel (z.imp (fun b ρ1 z1 => ?_) fun _ _ k => k)
  intro F1 H1 e1 rel1
  cases b with
  | true =>
    simp only [if_pos] at z1 ⊢
    exact qt g hw F1 ρ1 σ H1 D rel1 (z1.imp (fun _ _ k => k.ext e1) fun _ _ k => k.ext e1)
  | false =>
    simp only [Bool.false_eq_true, if_false] at z1 ⊢
    exact qu g hw F1 ρ1 σ H1 D rel1 (z1.imp (fun _ _ k => k.ext e1) fun _ _ k => k.ext e1)

/-! ### stores -/
def setF (i : Nat) (d : Dv) : M Unit := fun ρ => match (ρ[i]? : Option Sl) with
  | some (Sl.mu true _) => .bad
  | some _ => .ok () (ρ.set i (Sl.mu false d))
  | none => .bad
def setO (i : Nat) (t : Ot) : M Unit := fun ρ => match (ρ[i]? : Option Sl) with
  | some (Sl.mu true _) => .bad
  | some _ => .ok () (ρ.set i (Sl.ot t))
  | none => .bad
/-- x = value -/
def putV (i : Nat) : RV → M Unit
  | .d d => setS i d
  | .fr d => setF i d
  | .ow t => setO i t
  | .bor j => do
    let d ← ali (.bor j)
    setS i d
theorem notIo {ρ : VE} {i : Nat} {s : Sl} (e : (ρ[i]? : Option Sl) = some s) (h : ∀ d, s ≠ .mu true d) : ∀ d, ρ[i]? ≠ some (Sl.mu true d) := fun d q => h d (by rw [e] at q; exact Option.some.inj q)
theorem putV_ok {K : PySem.W.Frag} {g : Gx} {F H : Hp} {ρ : VE} {σ : L2.St} {i : Nat} {rv : RV} {v : V} {ok : Unit → VE → Prop} {ex : Er → VE → Prop} (r : Rel K g F ρ σ H) (hv : RvOk K g F ρ σ H rv v) (z : RP (putV i rv ρ) ok ex) :
    ∃ F' ρ', Ext F F' ∧ Rel K g F' ρ' (σ.set i (some v)) H ∧ ok () ρ' := by
  cases rv with
  | d d =>
    obtain ⟨r1, z1⟩ := setS_ok r hv z
    exact ⟨F, _, Ext.refl F, r1, z1⟩
  | bor j =>
    unfold putV at z
    rw [RP_bnd] at z
    obtain ⟨d, F1, ρ1, e1, r1, h1, z1⟩ := ali_ok (a := .bor j) (v := v) r hv z
    obtain ⟨r2, z2⟩ := setS_ok r1 h1 z1
    exact ⟨F1, _, e1, r2, z2⟩
  | fr d =>
    obtain ⟨q, o, rfl, h3, h4, h6, r1⟩ := hv
    unfold putV setF at z
    cases e : (ρ[i]? : Option Sl) with
    | none => simp only [e] at z; exact z.elim
    | some s =>
      simp only [e] at z
      have fin : (∀ d, s ≠ .mu true d) → ok () (ρ.set i (Sl.mu false d)) → ∃ F' ρ', Ext F F' ∧ Rel K g F' ρ' (σ.set i (some (.ref q))) H ∧ ok () ρ' := fun hs z => ⟨F, _, Ext.refl F, r1.setFr (notIo e hs) h3 h4 h6, z⟩
      cases s with
      | exn => exact fin (fun _ q => by cases q) z
      | no => exact fin (fun _ q => by cases q) z
      | val f => exact fin (fun _ q => by cases q) z
      | ot f => exact fin (fun _ q => by cases q) z
      | mu b f =>
        cases b with
        | true => exact z.elim
        | false => exact fin (fun _ q => by cases q) z
  | ow t =>
    obtain ⟨R, h1, h2, h3, r1⟩ := hv
    unfold putV setO at z
    cases e : (ρ[i]? : Option Sl) with
    | none => simp only [e] at z; exact z.elim
    | some s =>
      simp only [e] at z
      have fin : (∀ d, s ≠ .mu true d) → ok () (ρ.set i (Sl.ot t)) → ∃ F' ρ', Ext F F' ∧ Rel K g F' ρ' (σ.set i (some v)) H ∧ ok () ρ' := fun hs z => ⟨F, _, Ext.refl F, r1.setOt (notIo e hs) h1 h2 h3, z⟩
      cases s with
      | exn => exact fin (fun _ q => by cases q) z
      | no => exact fin (fun _ q => by cases q) z
      | val f => exact fin (fun _ q => by cases q) z
      | ot f => exact fin (fun _ q => by cases q) z
      | mu b f =>
        cases b with
        | true => exact z.elim
        | false => exact fin (fun _ q => by cases q) z
def sSet (i : Nat) (m : M RV) : M Fl := do
  let r ← m
  putV i r
  pure .nx
theorem set_sem {te : TE} {i : Nat} {m : M RV} (qt : ∀ g, W.p g → ∀ F ρ σ H Q, Rel X.K g F ρ σ H → RP (m ρ) (okE X g F σ Q) (exE X g F W) → te σ H Q) : ∀ g, W.p g → ∀ F ρ σ H D, Rel X.K g F ρ σ H → RP (sSet i m ρ) (okS X g F D) (exE X g F W) → tAsg te (gName i) D σ H := by
  intro g hw F ρ σ H D rel z
  unfold sSet at z
  rw [RP_bnd] at z
  refine qt g hw F ρ σ H _ rel (z.imp (fun rv ρ1 z1 => ?_) fun _ _ k => k)
  intro v F1 H1 e1 rel1 ok1
  rw [RP_bnd] at z1
  obtain ⟨F2, ρ2, e2, r2, z2⟩ := putV_ok rel1 ok1 z1
  exact z2 _ F2 H1 (e1.trans e2) r2
theorem st_set (i : Nat) {x : Str} {pos' : Pos} {m : M RV} (h : SE X W e m) (hN : X.N.Nodup) (hi : X.N[i]? = some x := by rfl) (hx : Loc X.env.scope x := by first | exact Or.inl rfl | exact Or.inr rfl) (hs : swapsWith e (some (.Name x pos')) pos.line X.env = pure false := by rfl)
    (hf : X.fn x = true ∨ X.env.scope.names.lookup x = some .local := by first | exact .inl rfl | exact .inr rfl) : SS X W (.Assign [.Name x pos'] e pos) (sSet i m) := by
  obtain ⟨t, pt, qt⟩ := h.ex
  exact ⟨_, ps_set hN hi hx pt hs hf, set_sem qt⟩
/-- x = [comprehension], by its own rule -/
theorem st_setLc (i : Nat) {stm : Stmt} {vs sl : List Nat} {mi : M (List Dv)} {mg : Dv → M Unit} {mt : M Bool} {me : M AV} (hi : SI X W tg iter mi)
    (hg : ∀ (s : Shared) (H : Hp) (C : Addr) (cl : List (Str × Addr)) (fp : List Addr), SG (X.blk s H scope (compEnvC scope cl C X.env) fp) tg sl mg)
    (ht : ∀ (s : Shared) (H : Hp) (C : Addr) (cl : List (Str × Addr)) (fp : List Addr), STs (X.blk s H scope (compEnvC scope cl C X.env) fp) W0 ifs mt)
    (he : ∀ (s : Shared) (H : Hp) (C : Addr) (cl : List (Str × Addr)) (fp : List Addr), SF (X.blk s H scope (compEnvC scope cl C X.env) fp) W0 elt me)
    (hs : ∀ i ∈ sl, i ∈ vs)
    (pb : ∀ (wi : TI) (g : TG) (tt : TT) (te : TE), PI X tg iter wi → (∀ (s : Shared) (H : Hp) (C : Addr) (cl : List (Str × Addr)) (fp : List Addr), PG (X.blk s H scope (compEnvC scope cl C X.env) fp) tg g) →
      (∀ (s : Shared) (H : Hp) (C : Addr) (cl : List (Str × Addr)) (fp : List Addr), PTs (X.blk s H scope (compEnvC scope cl C X.env) fp) ifs tt) →
      (∀ (s : Shared) (H : Hp) (C : Addr) (cl : List (Str × Addr)) (fp : List Addr), PE (X.blk s H scope (compEnvC scope cl C X.env) fp) elt te) → PS X stm (tAsg (tLc wi g tt te vs) (gName i))) : SS X W stm (sSet i (eComp vs mi mg mt me)) := by
  obtain ⟨w, pw, qw⟩ := hi.ex
  refine ⟨_, pb w (cG X sl mg) (cT X mt) (cE X me) pw (fun s H C cl fp => (hg s H C cl fp).can) (fun s H C cl fp => (ht s H C cl fp).can) (fun s H C cl fp => (he s H C cl fp).can), set_sem fun g hw F ρ σ H Q rel z => ?_⟩
  exact comp_sem (W := W) hs g F ρ σ H Q (fun R => qw g hw F ρ σ H R rel) z
/-- target = value, what is stored frozen -/
def sAsg (m : M AV) (mg : Dv → M Unit) : M Fl := do
  let a ← m
  let d ← ali a
  mg d
  pure .nx
theorem st_asg {sl : List Nat} {m : M AV} {mg : Dv → M Unit} (h : SF X W e m) (hg : SG X tg sl mg) (hs : swapsWithSole [tg] e pos.line X.env = pure false := by rfl) (hw : swappedStores [tg] e X.env = pure none := by rfl)
    (pb : ∀ te g, PE X e te → PG X tg g → PS X (.Assign [tg] e pos) (tAsg te g)) : SS X W (.Assign [tg] e pos) (sAsg m mg) := by
  obtain ⟨t, pt, qt⟩ := h.ex
  obtain ⟨u, pu, qu⟩ := hg.ex
  refine ⟨_, pb t u pt pu, fun g hw F ρ σ H D rel z => ?_⟩
  unfold sAsg at z
  rw [RP_bnd] at z
  refine qt g hw F ρ σ H _ rel (z.imp (fun av ρ1 z1 => ?_) fun _ _ k => k)
  intro v F1 H1 e1 rel1 ok1
  rw [RP_bnd] at z1
  obtain ⟨d, F2, ρ2, e2, r2, h2, z2⟩ := ali_ok rel1 ok1 z1
  rw [RP_bnd] at z2
  refine qu g F2 ρ2 σ H1 v d _ _ r2 h2 (z2.imp (fun _ ρ3 z3 => ?_) fun _ _ k => k)
  intro σ3 F3 H3 e3 r3 _ _
  exact z3 σ3 F3 H3 ((e1.trans e2).trans e3) r3
/-- xs[k] = e, xs the list of slot i -/
def sSetIx (i : Nat) (mv mk : M AV) : M Fl := do
  let v ← mv
  let _ ← getL i
  let k ← mk
  let d ← ali v
  let kd ← con k
  let j ← M.opt (int? kd)
  let xs ← getL i
  let n ← M.opt (ixN xs.length j)
  putMu i (.lst (xs.set n d))
  pure .nx
theorem st_setIx (i : Nat) {stm : Stmt} {mv mk : M AV} (hv : SF X W e mv) (hk : SF X W b mk) (pb : ∀ te ti, PE X e te → PE X b ti → PS X stm (tAsg te (gSub (tVar i) ti rSetL))) : SS X W stm (sSetIx i mv mk) := by
  obtain ⟨t, pt, qt⟩ := hv.ex
  obtain ⟨u, pu, qu⟩ := hk.ex
  refine ⟨_, pb t u pt pu, fun g hw F ρ σ H D rel z => ?_⟩
  unfold sSetIx at z
  rw [RP_bnd] at z
  refine qt g hw F ρ σ H _ rel (z.imp (fun av ρ1 z1 => ?_) fun _ _ k => k)
  intro v F1 H1 e1 rel1 ok1
  rw [RP_bnd] at z1
  obtain ⟨b0, xs0, p0, vs0, m1, m2, m3, m4, z2⟩ := getL_ok rel1 z1
  refine ⟨_, m2, ?_⟩
  rw [RP_bnd] at z2
  refine qu g hw F1 ρ1 σ H1 _ rel1 (z2.imp (fun kv ρ2 z3 => ?_) fun _ _ k => k.ext e1)
  intro w F2 H2 e2 rel2 ok2
  rw [RP_bnd] at z3
  obtain ⟨d, F3, ρ3, e3, r3, h3, z4⟩ := ali_ok rel2 (ok1.mono e2) z3
  rw [RP_bnd] at z4
  obtain ⟨kd, hkd, z5⟩ := con_ok r3 (ok2.mono e3) z4
  rw [RP_bnd] at z5
  obtain ⟨j, hj, z6⟩ := RP_opt z5
  obtain rfl := int?_eq hj
  obtain rfl := hkd.int
  rw [RP_bnd] at z6
  obtain ⟨b1, xs, q, vs, n1, n2, n3, n4, z7⟩ := getL_ok r3 z6
  rw [m2] at n2; cases n2
  rw [RP_bnd] at z7
  obtain ⟨n, hn, z8⟩ := RP_opt z7
  rw [RP_bnd] at z8
  have z9 := putMu_ok n1 z8
  rw [n4.length] at hn
  exact ⟨p0, vs, j, n, rfl, rfl, n3, hn, z9 σ F3 _ ((e1.trans e2).trans e3) (r3.write n1 m2 (.lst (n4.set h3 n)))⟩
/-- d[k] = e, d the dict of slot i -/
def sPut (i : Nat) (mv mk : M AV) : M Fl := do
  let v ← mv
  let _ ← getD' i
  let k ← mk
  let d ← ali v
  let kd ← con k
  let key ← M.opt (key? kd)
  let kvs ← getD' i
  M.grd (kvs.length < sizeLine)
  putMu i (.dct (putD kvs key d))
  pure .nx
theorem st_put (i : Nat) {stm : Stmt} {mv mk : M AV} (hv : SF X W e mv) (hk : SF X W b mk) (pb : ∀ te ti, PE X e te → PE X b ti → PS X stm (sDPut (tVar i) ti te)) : SS X W stm (sPut i mv mk) := by
  obtain ⟨t, pt, qt⟩ := hv.ex
  obtain ⟨u, pu, qu⟩ := hk.ex
  refine ⟨_, pb t u pt pu, fun g hw F ρ σ H D rel z => ?_⟩
  unfold sPut at z
  rw [RP_bnd] at z
  refine qt g hw F ρ σ H _ rel (z.imp (fun av ρ1 z1 => ?_) fun _ _ k => k)
  intro v F1 H1 e1 rel1 ok1
  rw [RP_bnd] at z1
  obtain ⟨b0, xs0, p0, vs0, m1, m2, m3, m4, z2⟩ := getD_ok rel1 z1
  refine ⟨_, m2, ?_⟩
  rw [RP_bnd] at z2
  refine qu g hw F1 ρ1 σ H1 _ rel1 (z2.imp (fun kv ρ2 z3 => ?_) fun _ _ k => k.ext e1)
  intro w F2 H2 e2 rel2 ok2
  rw [RP_bnd] at z3
  obtain ⟨d, F3, ρ3, e3, r3, h3, z4⟩ := ali_ok rel2 (ok1.mono e2) z3
  rw [RP_bnd] at z4
  obtain ⟨kd, hkd, z5⟩ := con_ok r3 (ok2.mono e3) z4
  rw [RP_bnd] at z5
  obtain ⟨key, hj, z6⟩ := RP_opt z5
  obtain rfl := key_V hkd hj
  rw [RP_bnd] at z6
  obtain ⟨b1, kvs, q, qs, n1, n2, n3, n4, z7⟩ := getD_ok r3 z6
  rw [m2] at n2; cases n2
  rw [RP_bnd] at z7
  obtain ⟨hl, z8⟩ := RP_grd z7
  rw [RP_bnd] at z8
  have z9 := putMu_ok n1 z8
  exact ⟨p0, _, rfl, DPut.k n3 (by rw [← Paired.length n4]; exact hl), z9 σ F3 _ ((e1.trans e2).trans e3) (r3.write n1 m2 (RepO.ofD (n4.put h3 key)))⟩
/-- x += e, ints -/
def slInt (i : Nat) : M Int := fun ρ => match (ρ[i]? : Option Sl) with
  | some (.val (.int x)) => .ok x ρ
  | _ => .bad
theorem slInt_ok {K : PySem.W.Frag} {g : Gx} {F H : Hp} {ρ : VE} {σ : L2.St} {i : Nat} {ok : Int → VE → Prop} {ex : Er → VE → Prop} (r : Rel K g F ρ σ H) (z : RP (slInt i ρ) ok ex) : ∃ x, σ[i]? = some (some (V.int x)) ∧ ok x ρ := by
  unfold slInt at z
  split at z
  · rename_i x q
    obtain ⟨v, h1, h2⟩ := r.val i _ q
    cases h2
    exact ⟨x, h1, z⟩
  · exact z.elim
def sAug (f : Int → Int → Int) (i : Nat) (m : M AV) : M Fl := do
  let x ← slInt i
  let a ← m
  let d ← con a
  let j ← M.opt (int? d)
  setS i (.int (f x j))
  pure .nx
theorem st_aug (i : Nat) {x : Str} {op : Operator} {f : Int → Int → Int} {pos' : Pos} {m : M AV} (ho : PIp X op (ipI f)) (h : SF X W e m) (hN : X.N.Nodup) (hi : X.N[i]? = some x := by rfl) (hx : Loc X.env.scope x := by first | exact Or.inl rfl | exact Or.inr rfl)
    (pb : ∀ te, PE X e te → PS X st (tAug i te (ipI f))) : SS X W st (sAug f i m) := by
  obtain ⟨t, pt, qt⟩ := h.ex
  refine ⟨_, pb t pt, fun g hw F ρ σ H D rel z => ?_⟩
  unfold sAug at z
  rw [RP_bnd] at z
  obtain ⟨x0, h1, z1⟩ := slInt_ok rel z
  refine ⟨_, h1, ?_⟩
  rw [RP_bnd] at z1
  refine qt g hw F ρ σ H _ rel (z1.imp (fun av ρ1 z2 => ?_) fun _ _ k => k)
  intro v F1 H1 e1 rel1 ok1
  rw [RP_bnd] at z2
  obtain ⟨d, td, z3⟩ := con_ok rel1 ok1 z2
  rw [RP_bnd] at z3
  obtain ⟨j, hj, z4⟩ := RP_opt z3
  obtain rfl := int?_eq hj
  rw [RP_bnd] at z4
  obtain ⟨r5, z5⟩ := setS_ok rel1 (Rep.int _) z4
  exact ⟨x0, j, rfl, td.int, z5 _ F1 H1 e1 r5⟩

/-! ### loops -/
def forL (mg : Dv → M Unit) (mb : M Fl) : List Dv → M Fl
  | [] => pure .nx
  | d :: ds => do
    mg d
    let f ← mb
    match f with
    | .nx => forL mg mb ds
    | .ct => forL mg mb ds
    | .bk => pure .nx
    | .rt r => pure (.rt r)
def sFor (mi : M (List Dv)) (mg : Dv → M Unit) (mb : M Fl) : M Fl := do
  let ds ← mi
  forL mg mb ds
theorem st_for {sl : List Nat} {body : List Stmt} {mi : M (List Dv)} {mg : Dv → M Unit} {mb : M Fl} (hi : SI X W tg iter mi) (hg : SG X tg sl mg) (hb : SSs X W body mb) (hp : PassesOwn (model X.prog X.w) X.A X.env X.xe) (hc : X.calm = true)
    (hs : ∀ x, foldedSetIterable iter X.env x = pure x := by intro _; rfl) : SS X W (.For tg iter body [] pos) (sFor mi mg mb) := by
  obtain ⟨w, pw, qw⟩ := hi.ex
  obtain ⟨t, pt, qt⟩ := hg.ex
  obtain ⟨u, pu, qu⟩ := hb.ex
  refine ⟨_, ps_for hp hc pw pt pu hs, fun g hw F ρ σ H D rel z => ?_⟩
  unfold sFor at z
  rw [RP_bnd] at z
  refine qw g hw F ρ σ H _ rel (z.imp (fun ds ρ1 z1 => ?_) fun _ _ k => k)
  intro J F1 H1 e1 rel1 it
  refine ⟨fun i m σ H => m + i = ds.length ∧ i ≤ ds.length ∧ ∃ F2 ρ2, Ext F1 F2 ∧ Rel X.K g F2 ρ2 σ H ∧ RP (forL mg mb (ds.drop i) ρ2) (okS X g F D) (exE X g F W), ⟨ds.length, rfl, Nat.zero_le _, F1, ρ1, Ext.refl F1, rel1, z1⟩, ?_⟩
  rintro i m σ2 H2 ⟨hm, hi, F2, ρ2, e2, rel2, z2⟩
  rcases Nat.lt_or_ge i ds.length with hlt | hge
  · right
    refine ⟨it.go i F2 H2 hlt e2 rel2.ext, fun σ' H' => (m - 1) + (i + 1) = ds.length ∧ i + 1 ≤ ds.length ∧ ∃ F2 ρ2, Ext F1 F2 ∧ Rel X.K g F2 ρ2 σ' H' ∧ RP (forL mg mb (ds.drop (i + 1)) ρ2) (okS X g F D) (exE X g F W), fun σ' H' h' => ⟨m - 1, by omega, h'⟩, ?_⟩
    intro x H3 hy
    have hd : ds[i]? = some ds[i] := List.getElem?_eq_getElem hlt
    rw [List.drop_eq_getElem_cons hlt] at z2
    unfold forL at z2
    rw [RP_bnd] at z2
    have step : ∃ F3, Ext F2 F3 ∧ Rel X.K g F3 ρ2 σ2 H3 ∧ Rep X.K F3 ds[i] x := by
      rcases it.yld i ds[i] F2 H2 x H3 hd e2 rel2.ext hy with ⟨rfl, hr⟩ | ⟨T, ws, es, rfl, hT, rfl, he, hr⟩
      · exact ⟨F2, Ext.refl F2, rel2, hr⟩
      · have hF := rel2.ext.none hT
        refine ⟨_, ext_upd hF, (rel2.allocH hT).freeze (rel2.freeH0 hT) (rel2.noHeld hT), ?_⟩
        rw [he]
        exact .tup (SqT.of upd_same) (hr.mono (ext_upd hF))
    obtain ⟨F3, e3, rel3, hrep⟩ := step
    refine qt g F3 ρ2 σ2 H3 x ds[i] _ _ rel3 hrep (z2.imp (fun _ ρ4 z3 => ?_) fun _ _ k => k)
    intro σ4 F4 H4 e4 rel4 _ _
    rw [RP_bnd] at z3
    have E4 : Ext F F4 := ((e1.trans e2).trans e3).trans e4
    refine qu g hw F4 ρ4 σ4 H4 _ rel4 (z3.imp (fun f ρ5 z4 => ?_) fun _ _ k => k.ext E4)
    intro σ5 F5 H5 e5 rel5
    have E5 : Ext F1 F5 := ((e2.trans e3).trans e4).trans e5
    cases f with
    | nx => exact ⟨by omega, by omega, F5, ρ5, E5, rel5, z4⟩
    | ct => exact ⟨by omega, by omega, F5, ρ5, E5, rel5, z4⟩
    | bk => exact z4 σ5 F5 H5 (e1.trans E5) rel5
    | rt r => exact z4 σ5 F5 H5 (e1.trans E5) rel5
  · left
    have hi' : i = ds.length := Nat.le_antisymm hi hge
    subst hi'
    refine ⟨it.stop F2 H2 e2 rel2.ext, ?_⟩
    rw [List.drop_length] at z2
    exact z2 σ2 F2 H2 (e1.trans e2) rel2
def whL (mc : M Bool) (mb : M Fl) : Nat → M Fl
  | 0 => M.bad
  | n + 1 => do
    let b ← mc
    if b = true then do
      let f ← mb
      match f with
      | .nx => whL mc mb n
      | .ct => whL mc mb n
      | .bk => pure .nx
      | .rt r => pure (.rt r)
    else pure .nx
theorem st_while (n : Nat) {body : List Stmt} {mc : M Bool} {mb : M Fl} (hc : STt X W c mc) (hb : SSs X W body mb) (hp : PassesOwn (model X.prog X.w) X.A X.env X.xe) : SS X W (.While c body [] pos) (whL mc mb n) := by
  obtain ⟨t, pt, qt⟩ := hc.ex
  obtain ⟨u, pu, qu⟩ := hb.ex
  refine ⟨_, ps_while hp pt pu, fun g hw F ρ σ H D rel z => ?_⟩
  refine ⟨fun m σ H => ∃ F2 ρ2, Ext F F2 ∧ Rel X.K g F2 ρ2 σ H ∧ RP (whL mc mb m ρ2) (okS X g F D) (exE X g F W), ⟨n, F, ρ, Ext.refl F, rel, z⟩, ?_⟩
  rintro m σ2 H2 ⟨F2, ρ2, e2, rel2, z2⟩
  cases m with
  | zero => exact z2.elim
  | succ m =>
    unfold whL at z2
    rw [RP_bnd] at z2
    refine qt g hw F2 ρ2 σ2 H2 _ rel2 (z2.imp (fun k ρ3 z3 => ?_) fun _ _ k => k.ext e2)
    intro F3 H3 e3 rel3
    cases k with
    | false => exact z3 σ2 F3 H3 (e2.trans e3) rel3
    | true =>
      simp only [if_pos] at z3 ⊢
      rw [RP_bnd] at z3
      refine ⟨fun σ' H' => ∃ F2 ρ2, Ext F F2 ∧ Rel X.K g F2 ρ2 σ' H' ∧ RP (whL mc mb m ρ2) (okS X g F D) (exE X g F W), fun σ' H' h' => ⟨m, Nat.lt_succ_self m, h'⟩, ?_⟩
      refine qu g hw F3 ρ3 σ2 H3 _ rel3 (z3.imp (fun f ρ4 z4 => ?_) fun _ _ k => k.ext (e2.trans e3))
      intro σ4 F4 H4 e4 rel4
      have E4 := (e2.trans e3).trans e4
      cases f with
      | nx => exact ⟨F4, ρ4, E4, rel4, z4⟩
      | ct => exact ⟨F4, ρ4, E4, rel4, z4⟩
      | bk => exact z4 σ4 F4 H4 E4 rel4
      | rt r => exact z4 σ4 F4 H4 E4 rel4
end
end P0
end
section
set_option Elab.async false
set_option linter.all false
set_option maxRecDepth 100000
set_option maxHeartbeats 4000000
/-! P0, exceptions: raised, caught by several named clauses, looked at. -/
namespace P0
open PySem PySem.Spec L2
open PyProof.Rows hiding St

/-! ### an own exception with fields: its __init__ -/
def spInit (K : PySem.W.Frag) (ks : List Str) : Sp := fun vs H Q _ => ∃ a C ws, vs = .ref a :: ws ∧ ws.length = ks.length ∧ OexC K C ∧ (∀ f ∈ ks, PySem.W.findIn K (.ref C) f = some none) ∧ H a = some (exo a C none) ∧
  ∀ dx, H dx = none → dx ≠ a → ∀ H', H' a = some (exo a C (some dx)) → H' dx = some (exd dx (List.zip ks.reverse ws.reverse)) → (∀ b, b ≠ a → b ≠ dx → H' b = H b) → Q .non H'
theorem spInit_len {K : PySem.W.Frag} {ks ps : List Str} (h : ps.length = ks.length + 1) : ∀ vs H Q E, spInit K ks vs H Q E → vs.length = ps.length := by
  rintro vs H Q E ⟨a, C, ws, rfl, h1, _⟩
  rw [List.length_cons, h1, h]
section
variable {K : PySem.W.Frag} {H : Hp} {Q : VK} {E : XK} {vs : List V}
theorem init1 {f : Str} {N : List Str} (h : spInit K [f] vs H Q E) : tOst K f (tVar 0) (tVar 1) { nx := fun _ G => Q .non G, rt := Q } (L2.start N vs) H := by
  obtain ⟨a, C, ws, rfl, hl, T, hno, ha, k⟩ := h
  match ws, hl with
  | [v], _ =>
    refine ⟨v, start_vals rfl, .ref a, start_vals rfl, a, C, rfl, T, hno f List.mem_cons_self, .inl ⟨ha, fun dx hd hne => ?_⟩⟩
    refine k dx hd hne _ upd_same (by rw [upd_ne hne, upd_same]; rfl) fun b h1 h2 => by rw [upd_ne h1, upd_ne h2]
theorem init2 {f f' : Str} {N : List Str} (h : spInit K [f, f'] vs H Q E) : tSeq (tOst K f (tVar 0) (tVar 1)) (tOst K f' (tVar 0) (tVar 2)) { nx := fun _ G => Q .non G, rt := Q } (L2.start N vs) H := by
  obtain ⟨a, C, ws, rfl, hl, T, hno, ha, k⟩ := h
  match ws, hl with
  | [v, u], _ =>
    refine ⟨v, start_vals rfl, .ref a, start_vals rfl, a, C, rfl, T, hno f List.mem_cons_self, .inl ⟨ha, fun dx hd hne => ?_⟩⟩
    refine ⟨u, start_vals rfl, .ref a, start_vals rfl, a, C, rfl, T, hno f' (List.mem_cons_of_mem _ List.mem_cons_self), .inr ⟨dx, [(f, v)], upd_same, by rw [upd_ne hne, upd_same], (by show 1 ≤ 900; decide), ?_⟩⟩
    refine k dx hd hne _ (by rw [upd_ne (Ne.symm hne), upd_same]) upd_same fun b h1 h2 => by rw [upd_ne h2, upd_ne h1, upd_ne h2]
end

section
variable {X : Cx} {W : Wh} {e : Expr} {es : List Expr} {pos p : Pos} {x : Str}
def M.thr {α : Type} (er : Er) : M α := fun ρ => .exc er ρ
/-- raise X(..) -/
def sRaise (name : Str) (ks : List Str) (ma : M (List AV)) : M Fl := do
  let as ← ma
  let ds ← aliL as
  M.grd (ds.length = ks.length)
  M.thr ⟨name, some (List.zip ks.reverse ds.reverse)⟩
theorem st_raise {C fI : Addr} {k : Nat} {fd : FuncData} {ps ks : List Str} {ma : M (List AV)} (T : OexC X.K C) (iC : PySem.W.findIn X.K (.ref C) "__init__" = some (some (.ref fI))) (tI : PySem.W.typeIn X.K (.ref fI) = some (.type "function"))
    (F1 : FnOk X.prog X.w X.K X.mg X.base CX0 k fI fd ps (spInit X.K ks)) (hno : ∀ f ∈ ks, PySem.W.findIn X.K (.ref C) f = some none) (hr : Room (k + 1) X.A) (hb : Binds X.K fd ps []) (tk : Takes X W.w) (hc : X.calm = true) (hg : Gl X x) (hm : X.mg x = some (.ref C)) (ha : SA X W (e :: es) ma) (h1000 : ks.length ≤ 1000)
    (hdb : (x == ("__debug__" : Str)) = false := by decide) (he : starEach (e :: es) X.env = (false, eval e X.env) :: starEach es X.env := by rfl) (hpl : (backTo pos (starEach es X.env)).any (·.1) = false := by rfl) {pos2 : Pos} :
    SS X W (.Raise (some (.Call (.Name x p) (e :: es) [] pos)) none pos2) (sRaise x ks ma) := by
  obtain ⟨t, pt, qt⟩ := ha.ex
  refine ⟨_, ps_raise hc tk (pmk_oex T iC tI F1 hr hb .nil pass0 hg hm pt hdb he hpl), fun g hw F ρ σ H D rel z => ?_⟩
  unfold sRaise at z
  rw [RP_bnd] at z
  refine qt g hw F ρ σ H _ rel (z.imp (fun as ρ1 z1 => ?_) fun _ _ k => k)
  intro vs F1 H1 e1 rel1 ok1
  rw [RP_bnd] at z1
  obtain ⟨ds, F2, ρ2, e2, r2, h2, z2⟩ := aliL_ok rel1 ok1 z1
  rw [RP_bnd] at z2
  obtain ⟨hl, z3⟩ := RP_grd z2
  have hlv : vs.length = ks.length := by rw [← h2.length]; exact hl
  refine ⟨by rw [hlv]; exact h1000, fun a hA => ?_⟩
  refine ⟨a, C, vs ++ [], rfl, by rw [List.append_nil]; exact hlv, T, hno, upd_same, fun dx hd hne H' q1 q2 q3 => ?_⟩
  have hd1 : H1 dx = none := by rw [upd_ne hne] at hd; exact hd
  rw [List.append_nil] at q2
  refine ⟨rfl, dx, _, q1, q2, hd1, ?_⟩
  have e3 : upd (L2.del H' a) dx (.xd (List.zip ks.reverse vs.reverse)) = upd H1 dx (.xd (List.zip ks.reverse vs.reverse)) := by
    funext b
    by_cases h1 : b = dx
    · rw [h1, upd_same, upd_same]
    · rw [upd_ne h1, upd_ne h1]
      by_cases h2 : b = a
      · rw [h2, del_same, hA]
      · rw [del_ne h2, q3 b h2 h1, upd_ne h2]
  rw [e3]
  have hF := r2.ext.none hd1
  refine z3 _ _ σ _ _ ((e1.trans e2).trans (ext_upd hF)) ((r2.allocH hd1).freeze (r2.freeH0 hd1) (r2.noHeld hd1)) ⟨C, hm, rfl, dx, ks.reverse, ds.reverse, vs.reverse, rfl, rfl, by rw [List.length_reverse, List.length_reverse, hl], upd_same, h2.reverse.mono (ext_upd hF)⟩
end

/-! ### try, with clauses «except X», «except X as n» in a row -/
/-- a clause: its class, the slot of its name, what its suite does -/
abbrev Cl1 := Value × Option Nat × (Addr → Value → Option Addr → TS)
def endsOf (D : Ends) : Option Nat → Ends
  | none => D
  | some i => { nx := fun σ H => D.nx (σ.set i none) H, rt := D.rt, bk := fun σ H => D.bk (σ.set i none) H, ct := fun σ H => D.ct (σ.set i none) H }
def slotOf (σ : L2.St) (a : Addr) : Option Nat → L2.St
  | none => σ
  | some i => σ.set i (some (.ref a))
def wAny (K : PySem.W.Frag) (Wout : WX) (D : Ends) : List Cl1 → WX
  | [] => Wout
  | (c, oi, ts) :: r => fun cls d σ H => ∃ b, PySem.W.exmOne K cls c = some b ∧ (b = true → ∀ a, H a = none → ts a cls d (endsOf D oi) (slotOf σ a oi) H) ∧ (b = false → wAny K Wout D r cls d σ H)
/-- a name of a clause stands in a slot -/
def NameAt (X : Cx) : Option Str → Option Nat → Prop
  | none, none => True
  | some n, some i => X.N[i]? = some n ∧ X.env.kindOf n = some .local
  | _, _ => False
inductive Hds (X : Cx) : List ExceptHandler → List Cl1 → Prop
  | nil : Hds X [] []
  | cons {x : Str} {c : Value} {on : Option Str} {oi : Option Nat} {ts : Addr → Value → Option Addr → TS} {b₀ : Stmt} {suite : List Stmt} {np pos' : Pos} {hds : List ExceptHandler} {l : List Cl1} (hc : Names X x c) (hn : NameAt X on oi)
      (hsu : ∀ (a : Addr) (oe : Obj) (cls : Value) (d : Option Addr) (pn : List (Addr × Obj)), Zc cls d oe → (∃ vs, oe.data = .fields vs) → PSs (X.suite a ((a, oe) :: pn)) (b₀ :: suite) (ts a cls d)) (r : Hds X hds l) :
      Hds X (.ExceptHandler (some (.Name x np)) on (b₀ :: suite) pos' :: hds) ((c, oi, ts) :: l)
section
variable {X : Cx} {pins : List (Addr × Obj)} {σ : L2.St} {H : Hp} {D : Ends} {Wout : WX}
/-- the state with the exception on the ground: at a, of the class cls, its dict d -/
structure Landed (X : Cx) (pins : List (Addr × Obj)) (σ : L2.St) (H : Hp) (B : Heap) (sI s' : Shared) (a : Addr) (cls : Value) (d : Option Addr) (h3 : Heap) : Prop where
  inv : Inv X pins σ H sI
  nb : ∀ b o, sI.heap.get? b = some o → b ∉ frs X.stack → B.get? b = some o
  up : sI.heap.UpToSlots h3
  fl : HandSPX.FlyingZ B (X.env :: X.outer) a (Zc cls d) h3
  na : H a = none
  os : s'.os = sI.os
  ag : AllBare s'.gens
  nL : a ≠ X.env.locals
  nF : a ∉ X.fs
theorem Landed.here {B : Heap} {sI s' : Shared} {a : Addr} {cls : Value} {d : Option Addr} {h3 : Heap} (L : Landed X pins σ H B sI s' a cls d h3) : Inv X pins σ H { s' with heap := h3 } := L.inv.landed L.nb L.fl.1 L.up L.os L.ag
/-- no clause is left: it flies on -/
theorem Landed.on {B : Heap} {sI s' : Shared} {a : Addr} {cls : Value} {d : Option Addr} {h3 : Heap} (L : Landed X pins σ H B sI s' a cls d h3) (hs : X.stack = X.env :: X.outer) (hf : X.env.frame = some X.env.locals) (tk : Takes X Wout) (w : Wout cls d σ H) :
    wpAny (model X.prog X.w) X.A (handleBy (.ref a) X.env []) (SP X pins D) X.xe { s' with heap := h3 } := by
  refine wpAny_handleBy_nil ?_
  obtain ⟨_, _, _, oe, vs, T, oT, ts', he, _, hd, h1, _⟩ := id L.fl
  unfold PySem.passOn
  refine wpAny_bind (wpAny_field he hd h1 ?_)
  have nn : ¬ ((Value.ref T == Value.none) = true) := by simp
  rw [if_neg nn]
  have fly : wpAny (model X.prog X.w) X.A (setFlight (.ref a) X.env.frame) (fun _ s4 => wpAny (model X.prog X.w) X.A (throw (.ref a) : Sem Flow) (SP X pins D) X.xe s4) X.xe { s' with heap := h3 } := by
    rw [hf]
    refine HandSPX.setFlight_upZ L.fl fun h4 held4 up4 => wpAny_throw (tk _ _ ?_)
    have sky : Sky B X.stack a (Zc cls d) X.env.locals h4 := Or.inr (Or.inr (by rw [hs]; exact held4))
    exact ⟨a, B, sI, pins, σ, H, cls, d, rfl, L.inv, L.nb, L.up.trans up4, sky, L.na, L.os, L.ag, w⟩
  first
    | exact wpAny_bind fly
    | exact wpAny_bind (wpAny_pure (wpAny_bind fly))
/-- the clauses, one after the other -/
theorem Landed.clauses {B : Heap} {sI s' : Shared} {a : Addr} {cls : Value} {d : Option Addr} {h3 : Heap} (L : Landed X pins σ H B sI s' a cls d h3) (hs : X.stack = X.env :: X.outer) (hf : X.env.frame = some X.env.locals) (hN : X.N.Nodup) (tk : Takes X Wout) :
    ∀ {hds : List ExceptHandler} {l : List Cl1}, Hds X hds l → wAny X.K Wout D l cls d σ H → wpAny (model X.prog X.w) X.A (handleBy (.ref a) X.env hds) (SP X pins D) X.xe { s' with heap := h3 } := by
  intro hds l hk
  induction hk with
  | nil => intro w; exact L.on hs hf tk w
  | @cons x c on oi ts b₀ suite np pos' hds2 l2 hc hn hsu r ih =>
    rintro ⟨b, hb1, hyes, hno⟩
    obtain ⟨oe3, vs3, he3, hz3, hd3⟩ := L.fl.there
    have S3 := L.here.suite he3 hd3 L.na L.nL L.nF
    refine wpAny_handleBy_cons (codeAny_handlers_test ?_) (fun q => by cases q)
    have looksT : PySem.W.Looks (model X.prog X.w) h3 (typeOf (.ref a)) cls := fun A Q E s k q => wpAny_typeOf_ref (k _ _ he3) (by rw [hz3.1]; exact q)
    have looksM := PySem.W.exm_one (M := model X.prog X.w) L.here.kIn looksT hb1
    have named : ∀ {Q : Value → Shared → Prop} {E : Value → Shared → Prop}, Q c { s' with heap := h3 } → wpAny (model X.prog X.w) (X.A.mark (some (.ref a))) (eval (.Name x np) X.env) Q E { s' with heap := h3 } := by
      intro Q E q
      obtain ⟨hg, hdb, hm | ⟨hm, hv, hnn⟩⟩ := hc
      · exact ld_glob (X := X.suite a ((a, oe3) :: (X.pn ++ pins))) S3 hg hm q hdb
      · exact ld_blt (X := X.suite a ((a, oe3) :: (X.pn ++ pins))) S3 hg hm hv q hnn hdb
    refine named (looksM.here ?_)
    cases b with
    | false => exact ih (hno rfl)
    | true =>
      cases on with
      | none =>
        cases oi with
        | some i => exact hn.elim
        | none =>
          refine codeAny_handlers_suite (HandSPX.lands_againZ L.fl fun h4 fl4 up4 => ?_)
          have J4 : Inv X pins σ H { s' with heap := h4 } := L.inv.landed L.nb fl4.1 (L.up.trans up4) L.os L.ag
          obtain ⟨oe4, vs4, he4, hz4, hd4⟩ := fl4.there
          have S4 := J4.suite he4 hd4 L.na L.nL L.nF
          refine wpAny_mono ((hsu a oe4 cls d (X.pn ++ pins) hz4 ⟨vs4, hd4⟩).run [] _ _ H _ S4 (hyes rfl a L.na)) ?_ (fun _ _ z => z.elim)
          intro f s6 hsp
          cases f
          case ret u =>
            obtain ⟨v6, σ6, H6, S6, r6, q6⟩ := hsp
            exact ⟨v6, σ6, H6, S6.unsuite L.inv.ok, r6, q6⟩
          all_goals
            obtain ⟨σ6, H6, S6, q6⟩ := hsp
            exact ⟨σ6, H6, S6.unsuite L.inv.ok, q6⟩
      | some n =>
        cases oi with
        | none => exact hn.elim
        | some i =>
          obtain ⟨hi, hln⟩ := hn
          refine codeAny_handlers_suite_as (HandSPX.lands_againZ L.fl fun h4 fl4 up4 => ?_)
          have J4 : Inv X pins σ H { s' with heap := h4 } := L.inv.landed L.nb fl4.1 (L.up.trans up4) L.os L.ag
          obtain ⟨oe4, vs4, he4, hz4, hd4⟩ := fl4.there
          have S4 := J4.suite he4 hd4 L.na L.nL L.nF
          refine store_ok (X := X.suite a ((a, oe4) :: (X.pn ++ pins))) (v := .ref a) S4 hN hi (Or.inl hln) rfl (fun s5 S5 => ?_) (Or.inr hln)
          refine wpAny_mono ((hsu a oe4 cls d (X.pn ++ pins) hz4 ⟨vs4, hd4⟩).run [] s5 _ H _ S5 (hyes rfl a L.na)) ?_ (fun _ _ z => z.elim)
          intro f s6 hsp
          have goes : ∀ {σ6 : L2.St} {H6 : Hp} {Q : Shared → Prop}, Inv (X.suite a ((a, oe4) :: (X.pn ++ pins))) [] σ6 H6 s6 → (∀ s7, Inv X pins (σ6.set i none) H6 s7 → Q s7) →
              wpAny (model X.prog X.w) X.A (do bindName X.env n .none; unbindBehindTheSuite X.env n pos') (fun _ s7 => Q s7) X.xe s6 := by
            intro σ6 H6 Q S6 hq
            exact gone_ok (S6.unsuite L.inv.ok) hN hi hln hq
          cases f
          case ret u =>
            obtain ⟨v6, σ6, H6, S6, r6, q6⟩ := hsp
            exact goes S6 fun s7 J7 => ⟨v6, _, _, J7, r6, q6⟩
          all_goals
            obtain ⟨σ6, H6, S6, q6⟩ := hsp
            exact goes S6 fun s7 J7 => ⟨_, _, J7, q6⟩
end
section
variable {X : Cx} {body : List Stmt} {h₀ : ExceptHandler} {hds : List ExceptHandler} {l : List Cl1} {pos : Pos} {tb : WX → TS} {Wout : WX}
theorem ps_tryA (hs : X.stack = X.env :: X.outer) (hf : X.env.frame = some X.env.locals) (hN : X.N.Nodup) (tk : Takes X Wout)
    (hb : ∀ (W : WX) (pn : List (Addr × Obj)) (xe : Value → Shared → Prop), Takes (X.tr pn xe) W → PassesOwn (model X.prog X.w) X.A X.env xe → PSs (X.tr pn xe) body (tb W))
    (hh : Hds X (h₀ :: hds) l) : PS X (.Try body (h₀ :: hds) [] [] pos) (fun D σ H => tb (wAny X.K Wout D l) D σ H) := by
  refine ⟨fun pins s σ H D I h => wpAny_Try_except ?_⟩
  have ok := I.ok
  have frames : X.A.frames = some (X.env :: X.outer) := by rw [ok.frames, hs]
  refine wpAny_mono ((hb (wAny X.K Wout D l) (X.pn ++ pins) (fun e s₁ => wpAny (model X.prog X.w) X.A (noteFrame e X.env) (fun _ s₂ => wpAny (model X.prog X.w) X.A (setFlight e none)
    (fun _ s₃ => wpAny (model X.prog X.w) X.A (handleBy e X.env (h₀ :: hds)) (SP X pins D) X.xe s₃) X.xe s₂) X.xe s₁) ?_ PassesOwn.looking).run [] s σ H D (I.toTry _) h) ?_ (fun e s1 he => he)
  · rintro u s' ⟨a, B, sI, pins', σ', H', cls, d, rfl, J', nb, up, sky, na, os, ag, w⟩
    show wpAny (model X.prog X.w) X.A (noteFrame (.ref a) X.env) _ _ _
    have sky' : Sky B (X.env :: X.outer) a (Zc cls d) X.env.locals s'.heap := by rw [← hs]; exact sky
    refine Sky.land Zc.steady frames hf sky' fun h3 fl3 up3 => ?_
    obtain ⟨oe3, vs3, he3, hz3, hd3⟩ := fl3.there
    have nfr : a ∉ frs (X.env :: X.outer) := by
      intro hm
      obtain ⟨_, o', e', hnf⟩ := fl3.2.2.1.mem hm
      rw [he3] at e'; cases e'
      exact hnf _ hd3
    have L : Landed X pins σ' H' B sI s' a cls d h3 :=
      { inv := J'.ofTry ok, nb := nb, up := up.trans up3, fl := fl3, na := na, os := os, ag := ag
        nL := fun z => nfr (List.mem_filterMap.mpr ⟨X.env, List.mem_cons_self, by rw [hf, z]⟩)
        nF := fun hm => by
          obtain ⟨e, he, q⟩ := List.mem_filterMap.mp hm
          exact nfr (List.mem_filterMap.mpr ⟨e, List.mem_cons_of_mem _ he, q⟩) }
    exact L.clauses hs hf hN tk hh w
  · intro f s1 hsp
    cases f
    case next =>
      obtain ⟨σ', H', J', q⟩ := hsp
      exact wpAny_execs_nil ⟨σ', H', J'.ofTry ok, q⟩
    case ret u =>
      obtain ⟨v, σ', H', J', r, q⟩ := hsp
      exact ⟨v, σ', H', J'.ofTry ok, r, q⟩
    all_goals
      obtain ⟨σ', H', J', q⟩ := hsp
      exact ⟨σ', H', J'.ofTry ok, q⟩
end

/-! ### what a try does -/
def isExn : Sl → Bool
  | .exn => true
  | _ => false
def noExn : M Unit := fun ρ => if ρ.any isExn = true then .bad else .ok () ρ
def bindX : Option Nat → M Unit
  | none => noExn
  | some i => fun ρ => if ρ.any isExn = true ∨ isIo (ρ[i]? : Option Sl) = true ∨ ρ.length ≤ i then .bad else .ok () (ρ.set i .exn)
def unbindX : Option Nat → M Unit
  | none => noExn
  | some i => fun ρ => if (ρ.set i .no).any isExn = true ∨ isIo (ρ[i]? : Option Sl) = true then .bad else .ok () (ρ.set i .no)
def okRt : Option Nat → Fl → Bool
  | some i, .rt (.bor j) => decide (i ≠ j)
  | _, _ => true
def tryH (isa : Str → Str → Option Bool) : List (Str × Option Nat × (Er → M Fl)) → Er → M Fl
  | [], er => M.thr er
  | (nm, oi, m) :: r, er => do
    let b ← M.opt (isa er.name nm)
    if b = true then do
      bindX oi
      let f ← noX (m er)
      M.grd (okRt oi f = true)
      unbindX oi
      pure f
    else tryH isa r er
def sTry (isa : Str → Str → Option Bool) (hs : List (Str × Option Nat × (Er → M Fl))) (mb : M Fl) : M Fl := fun ρ => match mb ρ with
  | .ok f ρ' => .ok f ρ'
  | .exc er ρ' => tryH isa hs er ρ'
  | .bad => .bad
theorem noExn_at {ρ : VE} (h : ¬ ρ.any isExn = true) {i : Nat} : ρ[i]? ≠ some Sl.exn := fun e => h (by
  rw [List.any_eq_true]
  exact ⟨_, List.mem_of_getElem? e, rfl⟩)
theorem noExn_ok {ρ : VE} {ok : Unit → VE → Prop} {ex : Er → VE → Prop} (h : RP (noExn ρ) ok ex) : ¬ ρ.any isExn = true ∧ ok () ρ := by
  unfold noExn at h
  split at h
  · exact h.elim
  · rename_i c; exact ⟨c, h⟩
theorem bindX_ok {i : Nat} {ρ : VE} {ok : Unit → VE → Prop} {ex : Er → VE → Prop} (h : RP (bindX (some i) ρ) ok ex) : ¬ (ρ.any isExn = true ∨ isIo (ρ[i]? : Option Sl) = true ∨ ρ.length ≤ i) ∧ ok () (ρ.set i .exn) := by
  unfold bindX at h
  dsimp only at h
  split at h
  · exact h.elim
  · rename_i c; exact ⟨c, h⟩
theorem unbindX_ok {i : Nat} {ρ : VE} {ok : Unit → VE → Prop} {ex : Er → VE → Prop} (h : RP (unbindX (some i) ρ) ok ex) : ¬ ((ρ.set i .no).any isExn = true ∨ isIo (ρ[i]? : Option Sl) = true) ∧ ok () (ρ.set i .no) := by
  unfold unbindX at h
  dsimp only at h
  split at h
  · exact h.elim
  · rename_i c; exact ⟨c, h⟩
section
variable {K : PySem.W.Frag} {g : Gx} {F F1 H : Hp} {ρ : VE} {σ : L2.St} {e : Option Addr}
theorem SlOk.exa {g' : Gx} {i : Nat} {s : Sl} {x : Option V} {R : List Addr} (h1 : g'.ios = g.ios) (h2 : g'.H0 = g.H0) (hs : s ≠ .exn) (h : SlOk K g F H i s x R) : SlOk K g' F H i s x R := by
  cases s with
  | no => exact h
  | val d => exact h
  | exn => exact absurd rfl hs
  | mu b d => unfold SlOk at h ⊢; rw [h1, h2]; exact h
  | ot t => unfold SlOk at h ⊢; rw [h2]; exact h
theorem Own.exa {g' : Gx} {Rs : List (List Addr)} (h1 : g'.ios = g.ios) (h2 : g'.H0 = g.H0) (h3 : g'.held = g.held) (hne : ¬ ρ.any isExn = true) (w : Own K g F H ρ σ Rs) : Own K g' F H ρ σ Rs where
  len := w.len
  lenR := w.lenR
  ok := fun i s x R k1 k2 k3 => (w.ok i s x R k1 k2 k3).exa h1 h2 fun z => noExn_at hne (i := i) (by rw [k1, z])
  nd := w.nd
  dis := w.dis
  out := fun i R hR a ha => by rw [h3, h2, h1]; exact w.out i R hR a ha
  hel := fun b o q => w.hel b o (by rw [← h3]; exact q)
theorem Rel.inX (r : Rel K g F ρ σ H) (hne : ¬ ρ.any isExn = true) : Rel K { g with F0 := F, exa := e } F ρ σ H where
  ext := r.ext
  f0 := Ext.refl F
  new := fun b h => .inl h
  keep := r.keep
  dom := r.dom
  io := r.io
  own := let ⟨Rs, w⟩ := r.own; ⟨Rs, Own.exa (g := g) rfl rfl rfl hne w⟩
theorem Rel.outX (r : Rel K { g with F0 := F1, exa := e } F ρ σ H) (h1 : Ext g.F0 F1) (h2 : ∀ b, F1 b ≠ none → g.F0 b ≠ none ∨ g.H0 b = none) (hne : ¬ ρ.any isExn = true) : Rel K g F ρ σ H where
  ext := r.ext
  f0 := h1.trans r.f0
  new := fun b h => (r.new b h).elim (fun k => h2 b k) .inr
  keep := r.keep
  dom := r.dom
  io := r.io
  own := let ⟨Rs, w⟩ := r.own; ⟨Rs, Own.exa (g := { g with F0 := F1, exa := e }) rfl rfl rfl hne w⟩
theorem RvOk.outX {rv : RV} {v : V} (h1 : Ext g.F0 F1) (h2 : ∀ b, F1 b ≠ none → g.F0 b ≠ none ∨ g.H0 b = none) (hne : ¬ ρ.any isExn = true) (h : RvOk K { g with F0 := F1, exa := e } F ρ σ H rv v) : RvOk K g F ρ σ H rv v := by
  cases rv with
  | d d => exact h
  | bor i => exact h
  | fr d =>
    obtain ⟨p, o, a1, a2, a3, a4, r⟩ := h
    exact ⟨p, o, a1, a2, a3, a4, Rel.outX (g := g.hold (one p o)) r h1 h2 hne⟩
  | ow t =>
    obtain ⟨R, a1, a2, a3, r⟩ := h
    exact ⟨R, a1, a2, a3, Rel.outX (g := g.hold (cells R H)) r h1 h2 hne⟩
theorem RvOk.setNo {rv : RV} {v : V} {i : Nat} {x : Option V} (hn : ∀ e, ρ[i]? ≠ some (Sl.mu true e)) (hi : rv ≠ .bor i) (h : RvOk K g F ρ σ H rv v) : RvOk K g F (ρ.set i .no) (σ.set i x) H rv v := by
  cases rv with
  | d d => exact h
  | bor j =>
    show (σ.set i x)[j]? = some (some v)
    rw [List.getElem?_set_ne (fun z => hi (by rw [z]))]; exact h
  | fr d =>
    obtain ⟨p, o, a1, a2, a3, a4, r⟩ := h
    exact ⟨p, o, a1, a2, a3, a4, r.setNo hn⟩
  | ow t =>
    obtain ⟨R, a1, a2, a3, r⟩ := h
    exact ⟨R, a1, a2, a3, r.setNo hn⟩
end
/-- the wish within a suite -/
def WS (X : Cx) (a : Addr) (er : Er) (cls : Value) (d : Option Addr) : Wh := ⟨fun _ _ _ _ => False, fun g => g.exa = some a ∧ ErOk X.K X.mg g.F0 er cls d⟩
/-- a suite, for every exception -/
def SU (X : Cx) (suite : List Stmt) (m : Er → M Fl) : Prop := ∀ (a : Addr) (oe : Obj) (cls : Value) (d : Option Addr) (pn : List (Addr × Obj)) (er : Er), Zc cls d oe → (∃ vs, oe.data = .fields vs) → SSs (X.suite a ((a, oe) :: pn)) (WS X a er cls d) suite (m er)
def tsOf (X : Cx) (m : Er → M Fl) (a : Addr) (cls : Value) (d : Option Addr) : TS := fun D σ H => ∃ er g F ρ, (WS X a er cls d).p g ∧ Rel X.K g F ρ σ H ∧ RP (m er ρ) (okS X g F D) (fun _ _ => False)
theorem SU.can {X : Cx} {suite : List Stmt} {m : Er → M Fl} (h : SU X suite m) (a : Addr) (oe : Obj) (cls : Value) (d : Option Addr) (pn : List (Addr × Obj)) (hz : Zc cls d oe) (hf : ∃ vs, oe.data = .fields vs) : PSs (X.suite a ((a, oe) :: pn)) suite (tsOf X m a cls d) := by
  refine ⟨fun pins s σ H D I ⟨er, g, F, ρ, hg, r, z⟩ => ?_⟩
  obtain ⟨t, pt, qt⟩ := (h a oe cls d pn er hz hf).ex
  exact pt.run pins s σ H D I (qt g hg F ρ σ H D r (z.imp (fun _ _ k => k) fun _ _ k => k.elim))
inductive HsOk (X : Cx) (isa : Str → Str → Option Bool) : List ExceptHandler → List (Str × Option Nat × (Er → M Fl)) → Prop
  | nil : HsOk X isa [] []
  | cons {x nm : Str} {c : Value} {on : Option Str} {oi : Option Nat} {m : Er → M Fl} {b₀ : Stmt} {suite : List Stmt} {np pos' : Pos} {hds : List ExceptHandler} {l : List (Str × Option Nat × (Er → M Fl))} (hc : Names X x c) (hn : NameAt X on oi)
      (hi : ∀ n C b, X.mg n = some (.ref C) → isa n nm = some b → PySem.W.exmOne X.K (.ref C) c = some b) (hsu : SU X (b₀ :: suite) m) (r : HsOk X isa hds l) :
      HsOk X isa (.ExceptHandler (some (.Name x np)) on (b₀ :: suite) pos' :: hds) ((nm, oi, m) :: l)
/-- the clauses as ps_tryA wants them -/
theorem HsOk.hds {X : Cx} {isa : Str → Str → Option Bool} {hds : List ExceptHandler} {l : List (Str × Option Nat × (Er → M Fl))} (h : HsOk X isa hds l) : ∃ l', Hds X hds l' ∧ ∀ (W : Wh) (D : Ends) (er : Er) (cls : Value) (d : Option Addr) (g : Gx) (F F' : Hp) (ρ : VE) (σ : L2.St) (H : Hp),
    Ext F F' → Rel X.K g F' ρ σ H → ErOk X.K X.mg F' er cls d → RP (tryH isa l er ρ) (okS X g F D) (exE X g F W) → wAny X.K W.w D l' cls d σ H := by
  induction h with
  | nil => exact ⟨[], .nil, fun W D er cls d g F F' ρ σ H e r ek z => z cls d σ F' H e r ek⟩
  | @cons x nm c on oi m b₀ suite np pos' hds l hc hn hi hsu _ ih =>
    obtain ⟨l', h1, h2⟩ := ih
    refine ⟨(c, oi, tsOf X m) :: l', .cons hc hn (fun a oe cls d pn hz hf => hsu.can a oe cls d pn hz hf) h1, ?_⟩
    intro W D er cls d g F F' ρ σ H e r ek z
    unfold tryH at z
    rw [RP_bnd] at z
    obtain ⟨b, hb, z⟩ := RP_opt z
    obtain ⟨C, hC, hcls, _⟩ := id ek
    refine ⟨b, by rw [hcls]; exact hi _ C b hC hb, fun hbt a ha => ?_, fun hbf => ?_⟩
    · subst hbt
      simp only [if_pos] at z
      rw [RP_bnd] at z
      cases oi with
      | none =>
        obtain ⟨hne, z2⟩ := noExn_ok (show RP (noExn ρ) _ _ from z)
        have r' : Rel X.K { g with F0 := F', exa := some a } F' ρ σ H := r.inX hne
        rw [RP_bnd] at z2
        refine ⟨er, _, F', ρ, ⟨rfl, ek⟩, r', (RP_noX z2).imp (fun f ρ2 z3 => ?_) fun _ _ k => k⟩
        intro σ2 F2 H2 e2 r2
        rw [RP_bnd] at z3
        obtain ⟨_, z3⟩ := RP_grd z3
        rw [RP_bnd] at z3
        obtain ⟨hne2, z4⟩ := noExn_ok (show RP (noExn ρ2) _ _ from z3)
        have r3 : Rel X.K g F2 ρ2 σ2 H2 := Rel.outX r2 r.f0 r.new hne2
        have z4' : okS X g F D f ρ2 := z4
        have z5 := z4' σ2 F2 H2 (e.trans e2) r3
        cases f with
        | nx => exact z5
        | bk => exact z5
        | ct => exact z5
        | rt rv => exact fun v hv => z5 v (RvOk.outX r.f0 r.new hne2 hv)
      | some i =>
        obtain ⟨hcond, z2⟩ := bindX_ok z
        have hne : ¬ ρ.any isExn = true := fun q => hcond (.inl q)
        have hio : ¬ isIo (ρ[i]? : Option Sl) = true := fun q => hcond (.inr (.inl q))
        have hio' : ∀ f, ρ[i]? ≠ some (Sl.mu true f) := fun f q => hio (by rw [q]; rfl)
        have r' : Rel X.K { g with F0 := F', exa := some a } F' (ρ.set i Sl.exn) (σ.set i (some (V.ref a))) H := (r.inX hne).setExn rfl hio'
        rw [RP_bnd] at z2
        refine ⟨er, _, F', ρ.set i Sl.exn, ⟨rfl, ek⟩, r', (RP_noX z2).imp (fun f ρ2 z3 => ?_) fun _ _ k => k⟩
        intro σ2 F2 H2 e2 r2
        rw [RP_bnd] at z3
        obtain ⟨hrt, z3⟩ := RP_grd z3
        rw [RP_bnd] at z3
        obtain ⟨hcond2, z3⟩ := unbindX_ok z3
        have hne2 : ¬ (ρ2.set i .no).any isExn = true := fun q => hcond2 (.inl q)
        have hio2 : ∀ f, ρ2[i]? ≠ some (Sl.mu true f) := fun f q => hcond2 (.inr (by rw [q]; rfl))
        have r3 : Rel X.K g F2 (ρ2.set i Sl.no) (σ2.set i none) H2 := Rel.outX (r2.setNo hio2) r.f0 r.new hne2
        have z4 : okS X g F D f (ρ2.set i Sl.no) := z3
        have z5 := z4 (σ2.set i none) F2 H2 (e.trans e2) r3
        cases f with
        | nx => exact z5
        | bk => exact z5
        | ct => exact z5
        | rt rv =>
          refine fun v hv => z5 v (RvOk.outX r.f0 r.new hne2 (RvOk.setNo hio2 (fun q => ?_) hv))
          subst q
          simp [okRt] at hrt
    · subst hbf
      simp only [Bool.false_eq_true, if_false] at z
      exact h2 W D er cls d g F F' ρ σ H e r ek z
end P0
end
section
set_option Elab.async false
set_option linter.all false
set_option maxRecDepth 100000
set_option maxHeartbeats 4000000
/-! P0, exceptions: the try statement; a field of the caught one; isinstance. -/
namespace P0
open PySem PySem.Spec L2
open PyProof.Rows hiding St

section
variable {X : Cx} {W : Wh} {e : Expr} {es : List Expr} {pos p : Pos} {x : Str} {body : List Stmt} {h₀ : ExceptHandler} {hds : List ExceptHandler}
theorem st_try {isa : Str → Str → Option Bool} {l : List (Str × Option Nat × (Er → M Fl))} {mb : M Fl} (hs : X.stack = X.env :: X.outer) (hf : X.env.frame = some X.env.locals) (hN : X.N.Nodup) (tk : Takes X W.w)
    (hb : ∀ (w : WX) (pn : List (Addr × Obj)) (xe : Value → Shared → Prop), Takes (X.tr pn xe) w → PassesOwn (model X.prog X.w) X.A X.env xe → SSs (X.tr pn xe) ⟨w, W.p⟩ body mb) (hh : HsOk X isa (h₀ :: hds) l) :
    SS X W (.Try body (h₀ :: hds) [] [] pos) (sTry isa l mb) := by
  obtain ⟨l', h1, h2⟩ := hh.hds
  refine ⟨_, ps_tryA (tb := fun w D σ H => ∃ g F ρ, W.p g ∧ Rel X.K g F ρ σ H ∧ RP (mb ρ) (okS X g F D) (exE X g F ⟨w, W.p⟩)) hs hf hN tk (fun w pn xe tk' po => ⟨fun pins s σ H D I ⟨g, F, ρ, hg, r, z⟩ => ?_⟩) h1, fun g hw F ρ σ H D rel z => ?_⟩
  · obtain ⟨t, pt, qt⟩ := (hb w pn xe tk' po).ex
    exact pt.run pins s σ H D I (qt g hg F ρ σ H D r z)
  · refine ⟨g, F, ρ, hw, rel, ?_⟩
    unfold sTry at z
    cases q : mb ρ with
    | ok f ρ' => rw [q] at z; exact z
    | bad => rw [q] at z; exact z
    | exc er ρ' =>
      rw [q] at z
      intro cls d σ' F' H' e1 r1 ek
      exact h2 W D er cls d g F F' ρ' σ' H' e1 r1 ek z
end

/-! ### the own exception classes -/
structure ExT (K : PySem.W.Frag) (mg : Str → Option Value) (cls : List Str) (prs : List (Str × Str × Bool)) (flds : List (Str × Str)) : Prop where
  c : ∀ n ∈ cls, ∃ C, mg n = some (.ref C) ∧ ExcC K C ∧ PySem.W.typeIn K (.ref C) = some (.type "type") ∧ PySem.W.subIn K (.ref C) (.ref C) = some true
  p : ∀ q ∈ prs, ∀ C D, mg q.1 = some (.ref C) → mg q.2.1 = some (.ref D) → PySem.W.subIn K (.ref C) (.ref D) = some q.2.2
  f : ∀ q ∈ flds, ∀ C, mg q.1 = some (.ref C) → PySem.W.findIn K (.ref C) q.2 = some none
def isaT (cls : List Str) (prs : List (Str × Str × Bool)) (n m : Str) : Option Bool := if n ∈ cls ∧ m ∈ cls then (prs.find? fun q => decide (q.1 = n) && decide (q.2.1 = m)).map (·.2.2) else none
section
variable {K : PySem.W.Frag} {mg : Str → Option Value} {cls : List Str} {prs : List (Str × Str × Bool)} {flds : List (Str × Str)}
theorem ExT.own (T : ExT K mg cls prs flds) {n : Str} {C : Addr} (hn : n ∈ cls) (hm : mg n = some (.ref C)) : ExcC K C ∧ PySem.W.typeIn K (.ref C) = some (.type "type") ∧ PySem.W.subIn K (.ref C) (.ref C) = some true := by
  obtain ⟨D, h1, h2⟩ := T.c n hn
  rw [hm] at h1; cases h1
  exact h2
theorem ExT.sub (T : ExT K mg cls prs flds) {n m : Str} {C D : Addr} {b : Bool} (hn : mg n = some (.ref C)) (hm : mg m = some (.ref D)) (h : isaT cls prs n m = some b) : n ∈ cls ∧ m ∈ cls ∧ PySem.W.subIn K (.ref C) (.ref D) = some b := by
  unfold isaT at h
  split at h
  · rename_i hc
    refine ⟨hc.1, hc.2, ?_⟩
    cases q : prs.find? fun q => decide (q.1 = n) && decide (q.2.1 = m) with
    | none => rw [q] at h; cases h
    | some y =>
      rw [q] at h
      have hb : y.2.2 = b := Option.some.inj h
      have h1 := List.find?_some q
      rw [Bool.and_eq_true, decide_eq_true_eq, decide_eq_true_eq] at h1
      have := T.p y (List.mem_of_find?_eq_some q) C D (by rw [h1.1]; exact hn) (by rw [h1.2]; exact hm)
      rw [hb] at this
      exact this
  · cases h
theorem ExT.exm (T : ExT K mg cls prs flds) {n m : Str} {C D : Addr} {b : Bool} (hn : mg n = some (.ref C)) (hm : mg m = some (.ref D)) (h : isaT cls prs n m = some b) : PySem.W.exmOne K (.ref C) (.ref D) = some b := by
  obtain ⟨_, h2, h3⟩ := T.sub hn hm h
  obtain ⟨hD, tD, _⟩ := T.own h2 hm
  exact PySem.W.exm_ref hD.hs hD.hd tD h3
theorem ExT.kit (T : ExT K mg cls prs flds) {n m : Str} {C D : Addr} {b : Bool} (hn : mg n = some (.ref C)) (hm : mg m = some (.ref D)) (h : isaT cls prs n m = some b) : PySem.W.kitCls K (.ref C) (.ref D) = some b := by
  obtain ⟨_, h2, h3⟩ := T.sub hn hm h
  obtain ⟨hD, tD, _⟩ := T.own h2 hm
  obtain ⟨cd, hc, _⟩ := PySem.W.any_some hD.hd
  show (if ((PySem.W.clsIn K D).isSome && PySem.W.typeIn K (.ref D) == some (.type "type")) = true then PySem.W.subIn K (.ref C) (.ref D) else none) = some b
  rw [hc, tD]
  simpa using h3
theorem excXf {C : Addr} (h : ExcC K C) : XfC K C := ⟨h.hg, h.hk, h.hs, h.hd⟩
end

/-! ### e.f in a suite -/
theorem pe_never {X : Cx} {e : Expr} : PE X e (fun _ _ _ => False) := ⟨fun _ _ _ _ _ _ h => h.elim⟩
def eXf (cls : List Str) (flds : List (Str × Str)) (er : Er) (i : Nat) (n : Str) : M RV := fun ρ => match (ρ[i]? : Option Sl) with
  | some .exn => match er.fs with
    | some fs => match fs.lookup n with
      | some d => if er.name ∈ cls ∧ (er.name, n) ∈ flds then .ok (.d d) ρ else .bad
      | none => .bad
    | none => .bad
  | _ => .bad
theorem lookup_zip {K : PySem.W.Frag} {F : Hp} {n : Str} : ∀ {ks : List Str} {xs : List Dv} {vs : List V} {d : Dv}, Reps K F xs vs → List.lookup n (List.zip ks xs) = some d → ∃ v, List.lookup n (List.zip ks vs) = some v ∧ Rep K F d v
  | [], _, _, _, _, h => by simp at h
  | _ :: _, _, _, _, .nil, h => by simp at h
  | k :: ks, _, _, d, .cons r t, h => by
    rw [List.zip_cons_cons, List.lookup_cons] at h
    rw [List.zip_cons_cons, List.lookup_cons]
    cases q : (n == k) with
    | true => rw [q] at h; cases h; exact ⟨_, rfl, r⟩
    | false => rw [q] at h; exact lookup_zip t h
section
variable {X : Cx} {a : Addr} {oe : Obj} {cls : Value} {d : Option Addr} {pn : List (Addr × Obj)} {er : Er} {pos p : Pos} {x n : Str} {cl : List Str} {prs : List (Str × Str × Bool)} {flds : List (Str × Str)}
theorem se_xf (i : Nat) (T : ExT X.K X.mg cl prs flds) (hz : Zc cls d oe) (hf : ∃ vs, oe.data = .fields vs) (hN : X.N[i]? = some x := by rfl) (hv : Vis X.env.scope x := by first | exact Or.inl rfl | exact Or.inr (Or.inl rfl) | exact Or.inr (Or.inr rfl)) (hdb : (x == ("__debug__" : Str)) = false := by decide)
    (hcd : (x == ("__classdict__" : Str)) = false := by decide) (hb : attributeBase (.Name x p) n X.env (eval (.Name x p) X.env) = eval (.Name x p) X.env := by rfl) :
    SE (X.suite a ((a, oe) :: pn)) (WS X a er cls d) (.Attribute (.Name x p) n pos) (eXf cl flds er i n) := by
  by_cases hC : ∃ C, cls = .ref C ∧ XfC X.K C ∧ PySem.W.findIn X.K (.ref C) n = some none
  · obtain ⟨C, rfl, hC, hno⟩ := hC
    refine ⟨_, pe_xf (X := X) (te := tVar i) hC hno hz hf (pe_var hN hv hdb hcd) hb, fun g hw F ρ σ H Q rel z => ?_⟩
    obtain ⟨hex, C', hC', hcls, hd⟩ := hw
    obtain rfl := Value.ref.inj hcls
    unfold eXf at z
    split at z
    case h_1 hρ =>
      obtain ⟨a', h1, h2⟩ := rel.exs i hρ
      rw [hex] at h1; cases h1
      refine ⟨_, h2, rfl, rfl, ?_⟩
      cases hfs : er.fs with
      | none => rw [hfs] at z; exact z.elim
      | some fs =>
        rw [hfs] at z hd
        obtain ⟨dd, ks, xs, vs, rfl, rfl, hl, h3, h4⟩ := hd
        cases hlk : List.lookup n (List.zip ks xs) with
        | none => simp only [hlk] at z; exact z.elim
        | some dv =>
          simp only [hlk] at z
          split at z
          · obtain ⟨v, h5, h6⟩ := lookup_zip h4 hlk
            exact ⟨dd, _, v, rfl, rel.ext _ _ (rel.f0 _ _ h3), h5, z v F H (Ext.refl F) rel (h6.mono rel.f0)⟩
          · exact z.elim
    case h_2 => exact z.elim
  · refine ⟨_, pe_never, fun g hw F ρ σ H Q rel z => hC ?_⟩
    obtain ⟨hex, C', hC', hcls, hd⟩ := hw
    unfold eXf at z
    split at z
    case h_1 hρ =>
      cases hfs : er.fs with
      | none => rw [hfs] at z; exact z.elim
      | some fs =>
        rw [hfs] at z
        cases hlk : List.lookup n fs with
        | none => simp only [hlk] at z; exact z.elim
        | some dv =>
          simp only [hlk] at z
          split at z
          · rename_i hc
            exact ⟨C', hcls, excXf (T.own hc.1 hC').1, T.f _ hc.2 C' hC'⟩
          · exact z.elim
    case h_2 => exact z.elim

/-! ### isinstance(e, (A, B, ..)) and isinstance(e, A) in a suite -/
def isaL (cl : List Str) (prs : List (Str × Str × Bool)) (n : Str) : List Str → Option Bool
  | [] => some false
  | m :: ms => match isaT cl prs n m with
    | some true => some true
    | some false => isaL cl prs n ms
    | none => none
def eIsL (cl : List Str) (prs : List (Str × Str × Bool)) (er : Er) (i : Nat) (ns : List Str) : M RV := fun ρ => match (ρ[i]? : Option Sl) with
  | some .exn => match isaL cl prs er.name ns with
    | some b => if er.name ∈ cl then .ok (.d (.bl b)) ρ else .bad
    | none => .bad
  | _ => .bad
def dOk (H : Hp) (d : Option Addr) : Prop := d = none ∨ ∃ dd fs, d = some dd ∧ H dd = some (.xd fs)
theorem kit_exn {K : PySem.W.Frag} {C : Addr} (hc : ExcC K C) {a : Addr} {oe : Obj} {od : Option Obj} : PySem.W.KitX K (.ref a) (.ref C) (fun h => PySem.W.InstAt h a oe C od) := by
  obtain ⟨cd, hcd, _⟩ := PySem.W.any_some hc.hd
  exact PySem.W.kitx_exc (by rw [hcd]; rfl) hc.hg hc.hk hc.hs hc.ha hc.hn hc.ht hc.hm
theorem inst_exn {P : Program} {w : World} {H : Hp} {s : Shared} {C : Addr} (hz : Zc (.ref C) d oe) (hf : ∃ vs, oe.data = .fields vs) (ha : s.heap.get? a = some oe) (hok : HOk P w H s.heap) (hd : dOk H d) : ∃ od, PySem.W.InstAt s.heap a oe C od := by
  obtain ⟨oc, odt, oda, osl⟩ := oe
  obtain ⟨h1, h2⟩ := hz
  obtain ⟨vs, hv⟩ := hf
  dsimp only at h1 h2 hv
  subst h1 h2 hv
  rcases hd with rfl | ⟨dd, fs, rfl, h⟩
  · exact ⟨none, ha, rfl, rfl, trivial⟩
  · have hx : ObjOk P w H s.heap dd (.xd fs) := hok dd _ h
    obtain ⟨mA, hns, hr⟩ := hx
    obtain ⟨od, ho, hl⟩ := lookIn_ns hns
    exact ⟨some od, ha, rfl, rfl, ho⟩
def rIsL (K : PySem.W.Frag) (C a : Addr) (d : Option Addr) : List V → Hp → VK → Prop := fun xs H Q => ∃ (tp : Addr) (cs : List V) (us : List Value) (b : Bool), xs = [.ref a, .ref tp] ∧ H tp = some (.tup cs) ∧ Paired ClsV cs us ∧ PySem.W.kitAny K (.ref C) us = some b ∧ dOk H d ∧ Q (.bl b) H
theorem call_isL {C : Addr} (hc : ExcC X.K C) (hz : Zc (.ref C) d oe) (hf : ∃ vs, oe.data = .fields vs) : CallR (X.suite a ((a, oe) :: pn)) (.builtin "isinstance") (rIsL X.K C a d) := by
  intro pins s σ H xs us Q I r h
  obtain ⟨tp, cs, ws, b, rfl, hT, k, e, hd, q⟩ := h
  obtain ⟨u1, u2, rfl, r1, r2⟩ := vals2 r
  cases (show u2 = Value.ref tp from r2)
  cases (show u1 = Value.ref a from r1)
  obtain ⟨hget, _⟩ := I.pin (a, oe) (List.mem_append.mpr (.inl List.mem_cons_self))
  obtain ⟨od, J⟩ := inst_exn hz hf hget I.hok hd
  obtain ⟨_, its, rv, o, h1, h2, n, h3⟩ := (show ObjOk X.prog X.w H s.heap tp (.tup cs) from I.hok tp _ hT)
  have e3 := ClsV.all k rv
  subst e3
  obtain ⟨oc, od', dt, sl⟩ := o
  simp only at h2 h3
  subst h2 h3
  exact PySem.W.kia_tup (kit_exn hc) I.kIn J h1 e (fun z => nomatch z) fun tk => ⟨.bl b, H, I.tok tk, rfl, q⟩
end
/-- the names of a tuple of own classes -/
inductive ClsNs (X : Cx) : List Str → List Expr → List Addr → Prop
  | nil : ClsNs X [] [] []
  | cons {x : Str} {C : Addr} {p : Pos} {xs : List Str} {es : List Expr} {Cs : List Addr} (hg : Gl X x) (hm : X.mg x = some (.ref C)) (hd : (x == ("__debug__" : Str)) = false) (hs : starEach (Expr.Name x p :: es) X.env = (false, eval (.Name x p) X.env) :: starEach es X.env) (t : ClsNs X xs es Cs) : ClsNs X (x :: xs) (.Name x p :: es) (C :: Cs)
def tRefs : List Addr → TA
  | [] => tNil
  | C :: Cs => tCons (tC (.ref C)) (tRefs Cs)
theorem tRefs_run : ∀ {Cs : List Addr} {σ : L2.St} {H : Hp} {Q : List V → Hp → Prop}, Q (Cs.map V.ref) H → tRefs Cs σ H Q
  | [], _, _, _, h => h
  | C :: Cs, σ, H, Q, h => show tRefs Cs σ H (fun xs H2 => Q (V.ref C :: xs) H2) from tRefs_run h
theorem ClsNs.pa {X : Cx} {xs : List Str} {es : List Expr} {Cs : List Addr} (h : ClsNs X xs es Cs) : PA X es (tRefs Cs) := by
  induction h with
  | nil => exact pa_nil
  | cons hg hm hd hs _ ih => exact pa_cons (pe_glob hg hm rfl hd) ih hs
theorem ClsNs.suite {X : Cx} {xs : List Str} {es : List Expr} {Cs : List Addr} (h : ClsNs X xs es Cs) (a : Addr) (pn : List (Addr × Obj)) : ClsNs (X.suite a pn) xs es Cs := by
  induction h with
  | nil => exact .nil
  | cons hg hm hd hs _ ih => exact .cons hg hm hd hs ih
theorem ClsNs.kit {X : Cx} {cl : List Str} {prs : List (Str × Str × Bool)} {flds : List (Str × Str)} (T : ExT X.K X.mg cl prs flds) {n : Str} {C : Addr} (hn : X.mg n = some (.ref C)) {xs : List Str} {es : List Expr} {Cs : List Addr} (h : ClsNs X xs es Cs) : ∀ {b : Bool}, isaL cl prs n xs = some b →
    PySem.W.kitAny X.K (.ref C) (Cs.map Value.ref) = some b := by
  induction h with
  | nil => intro b z; cases z; rfl
  | @cons x D p xs es Cs hg hm hd hs _ ih =>
    intro b z
    unfold isaL at z
    have one : ∀ c, isaT cl prs n x = some c → PySem.W.kitOne X.K (.ref C) (.ref D) = some c ∨ (PySem.W.kitOne X.K (.ref C) (.ref D) = some true) := fun c hc => by
      unfold PySem.W.kitOne
      split
      · exact .inr rfl
      · exact .inl (T.kit hn hm hc)
    cases q : isaT cl prs n x with
    | none => rw [q] at z; cases z
    | some c =>
      rw [q] at z
      have hk := T.kit hn hm q
      show PySem.W.kitAny X.K (.ref C) (Value.ref D :: Cs.map Value.ref) = some b
      cases c with
      | true =>
        cases z
        refine kitAny_cons (b := true) ?_ (fun y => by cases y) (fun _ => rfl)
        rcases one true q with k | k <;> exact k
      | false =>
        refine kitAny_cons (b := false) ?_ (fun _ => ih z) (fun y => by cases y)
        unfold PySem.W.kitOne
        split
        · rename_i he
          exfalso
          have hCD : C = D := Value.ref.inj (beq_iff_eq.mp he)
          subst hCD
          obtain ⟨h1, h2, h3⟩ := T.sub hn hm q
          have := (T.own h1 hn).2.2
          rw [h3] at this
          cases this
        · exact hk
section
variable {X : Cx} {a : Addr} {oe : Obj} {cls : Value} {d : Option Addr} {pn : List (Addr × Obj)} {er : Er} {pos p p1 p2 : Pos} {x n : Str} {cl : List Str} {prs : List (Str × Str × Bool)} {flds : List (Str × Str)}
theorem paired_cls : ∀ {Cs : List Addr}, Paired ClsV (Cs.map V.ref) (Cs.map Value.ref)
  | [] => .nil
  | C :: _ => .cons (.own C) paired_cls
theorem se_isL (i : Nat) {ns : List Str} {es : List Expr} {Cs : List Addr} {k : Nat} (T : ExT X.K X.mg cl prs flds) (hns : ClsNs X ns es Cs) (hz : Zc cls d oe) (hf : ∃ vs, oe.data = .fields vs) (hg : Gl X "isinstance") (hm : X.mg "isinstance" = none) (hlen : Cs.length ≤ 1000)
    (hN : X.N[i]? = some x := by rfl) (hv : Vis X.env.scope x := by first | exact Or.inl rfl | exact Or.inr (Or.inl rfl) | exact Or.inr (Or.inr rfl)) (hdb : (x == ("__debug__" : Str)) = false := by decide) (hcd : (x == ("__classdict__" : Str)) = false := by decide)
    (he : starEach [.Name x p1, .Tuple es k p2] X.env = (false, eval (.Name x p1) X.env) :: starEach [.Tuple es k p2] X.env := by rfl) (he2 : starEach [.Tuple es k p2] X.env = (false, eval (.Tuple es k p2) X.env) :: starEach [] X.env := by rfl)
    (hpl : (backTo pos (starEach [.Tuple es k p2] X.env)).any (·.1) = false := by rfl) :
    SE (X.suite a ((a, oe) :: pn)) (WS X a er cls d) (.Call (.Name "isinstance" p) [.Name x p1, .Tuple es k p2] [] pos) (eIsL cl prs er i ns) := by
  by_cases hC : ∃ C, cls = .ref C ∧ ExcC X.K C
  · obtain ⟨C, rfl, hC⟩ := hC
    refine ⟨_, pe_callB (X := X.suite a ((a, oe) :: pn)) (call_isL hC hz hf) hg hm rfl (pa_cons (X := X.suite a ((a, oe) :: pn)) (pe_var (X := X.suite a ((a, oe) :: pn)) hN hv hdb hcd) (pa_cons (X := X.suite a ((a, oe) :: pn)) (pe_tup (hns.suite a ((a, oe) :: pn)).pa) pa_nil he2) he) (by decide) (by decide) he hpl, fun g hw F ρ σ H Q rel z => ?_⟩
    · obtain ⟨hex, C', hC', hcls, hd⟩ := hw
      obtain rfl := Value.ref.inj hcls
      unfold eIsL at z
      split at z
      case h_2 => exact z.elim
      case h_1 hρ =>
        obtain ⟨a', h1, h2⟩ := rel.exs i hρ
        rw [hex] at h1; cases h1
        split at z
        case h_2 => exact z.elim
        case h_1 b hb =>
          split at z
          case isFalse => exact z.elim
          case isTrue hn =>
            refine ⟨_, h2, ?_⟩
            refine tRefs_run ⟨by rw [List.length_map]; exact Nat.le_trans hlen (by decide), fun q hq => ?_⟩
            have hF := rel.ext.none hq
            refine ⟨q, _, Cs.map Value.ref, b, rfl, upd_same, paired_cls, hns.kit T hC' hb, ?_, ?_⟩
            · cases hfs : er.fs with
              | none => rw [hfs] at hd; exact .inl hd
              | some fs =>
                rw [hfs] at hd
                obtain ⟨dd, ks, xs, vs, rfl, rfl, hl, h3, h4⟩ := hd
                have h5 := rel.ext _ _ (rel.f0 _ _ h3)
                exact .inr ⟨dd, _, rfl, by rw [upd_ne (ne_of_none h5 hq)]; exact h5⟩
            · exact z _ F _ (Ext.refl F) (rel.alloc hq) (.bl b)
  · refine ⟨_, pe_never, fun g hw F ρ σ H Q rel z => hC ?_⟩
    obtain ⟨hex, C', hC', hcls, hd⟩ := hw
    unfold eIsL at z
    split at z
    case h_2 => exact z.elim
    case h_1 hρ =>
      split at z
      case h_2 => exact z.elim
      case h_1 b hb =>
        split at z
        case isFalse => exact z.elim
        case isTrue hn => exact ⟨C', hcls, (T.own hn hC').1⟩
end
end P0
end
section
set_option Elab.async false
set_option linter.all false
set_option maxRecDepth 100000
set_option maxHeartbeats 4000000
/-! P0: zip and enumerate over lists, tuples and texts alike. -/
namespace P0
open PySem PySem.Spec L2
open PyProof.Rows hiding St

theorem valsGet : ∀ {xs : List V} {us : List Value} {i : Nat} {u : Value}, Vals xs us → us[i]? = some u → ∃ x, xs[i]? = some x ∧ RelV x u
  | _, _, _, _, .nil, e => by simp at e
  | _, _, 0, _, .cons r _, e => by simp at e; subst e; exact ⟨_, rfl, r⟩
  | _, _, i + 1, u, .cons _ t, e => by
    obtain ⟨x, h1, h2⟩ := valsGet (i := i) (u := u) t (by simpa using e)
    exact ⟨x, by simpa using h1, h2⟩
inductive Kd where
  | l (a : Addr) | t (a : Addr) | s (x : Str)
namespace Kd
def v : Kd → V
  | .l a => .ref a
  | .t a => .ref a
  | .s x => .str x
def ar : Kd → List Addr
  | .l a => [a]
  | .t a => [a]
  | .s _ => []
def at' (K : PySem.W.Frag) (H : Hp) : Kd → List V → Prop
  | .l a, xs => SqL K H a xs
  | .t a, xs => SqT K H a xs
  | .s x, xs => xs = x.cps.toList.map fun c => V.str ⟨#[c]⟩
def it (h : Heap) (i1 : Addr) (i : Nat) : Kd → Prop
  | .l a => h.IsListIter i1 a i
  | .t a => h.IsTupleIter i1 a i
  | .s x => ∃ u, h.IsStrIter i1 (strIterType x) x u i
theorem ext {K : PySem.W.Frag} {F G : Hp} (e : Ext F G) : ∀ {k : Kd} {xs : List V}, k.at' K F xs → k.at' K G xs
  | .l _, _, h => SqL.ext e h
  | .t _, _, h => SqT.ext e h
  | .s _, _, h => h
theorem it_obj {h : Heap} {i1 : Addr} {i : Nat} : ∀ {k : Kd}, k.it h i1 i → ∃ o, h.get? i1 = some o ∧ ∀ v, o.data ≠ .cell v
  | .l _, ⟨o, e, _, d⟩ => ⟨o, e, fun v q => by rw [d] at q; cases q⟩
  | .t _, ⟨o, e, _, d⟩ => ⟨o, e, fun v q => by rw [d] at q; cases q⟩
  | .s _, ⟨_, o, e, _, d⟩ => ⟨o, e, fun v q => by rw [d] at q; cases q⟩
theorem it_keep {h h' : Heap} {i1 : Addr} {i : Nat} (hk : ∀ o, h.get? i1 = some o → h'.get? i1 = some o) : ∀ {k : Kd}, k.it h i1 i → k.it h' i1 i
  | .l _, st => Heap.IsListIter.at st hk
  | .t _, st => Heap.IsTupleIter.at st hk
  | .s _, ⟨u, o, ho, r⟩ => ⟨u, o, hk o ho, r⟩
section
variable {X : Cx} {pins : List (Addr × Obj)} {σ : L2.St} {H : Hp} {s : Shared} {xs : List V}
theorem draws (I : Inv X pins σ H s) (hh : X.A.handled = none) {i1 : Addr} {i : Nat} : ∀ {k : Kd}, k.at' X.K H xs → k.it s.heap i1 i → (∀ a ∈ k.ar, a ≠ i1) →
    ∃ P St, Draws X.prog X.w X.A.in1 i1 (i1 :: k.ar) xs.length P St ∧ St i s.heap ∧ (∀ i h, St i h → k.it h i1 i) ∧ ∀ i u, P i u → ∃ x, xs[i]? = some x ∧ RelV x u
  | .l a, h, st, hne => by
    obtain ⟨its, rv, p, _⟩ := I.list h
    have D := Draws.list (prog := X.prog) (w := X.w) (show X.A.in1.handled = none from hh) i1 a (hne a (by simp [ar])) its.toArray
    rw [show its.toArray.size = xs.length by rw [rv.length]; simp] at D
    exact ⟨_, _, D, ⟨st, p.isList⟩, fun i h q => q.1, fun i u hu => valsGet rv (show its[i]? = some u by simpa using hu)⟩
  | .t a, h, st, hne => by
    obtain ⟨its, rv, p, _⟩ := I.tuple h
    have D := Draws.tuple (prog := X.prog) (w := X.w) (show X.A.in1.handled = none from hh) i1 a (hne a (by simp [ar])) its.toArray
    rw [show its.toArray.size = xs.length by rw [rv.length]; simp] at D
    exact ⟨_, _, D, ⟨st, p⟩, fun i h q => q.1, fun i u hu => valsGet rv (show its[i]? = some u by simpa using hu)⟩
  | .s x, h, ⟨u0, st⟩, hne => by
    have D := Draws.text (prog := X.prog) (w := X.w) (show X.A.in1.handled = none from hh) i1 x u0
    rw [show x.cps.size = xs.length by rw [h]; simp] at D
    refine ⟨_, _, D, st, fun i h q => ⟨_, q⟩, fun i u hu => ?_⟩
    obtain ⟨c, t, hc, rfl⟩ := hu
    refine ⟨.str ⟨#[c]⟩, ?_, t, rfl⟩
    rw [h, List.getElem?_map, Array.getElem?_toList, hc]; rfl
theorem begins (I : Inv X pins σ H s) : ∀ {k : Kd} {u : Value}, k.at' X.K H xs → RelV k.v u → ∃ o P, Begins u o P ∧ P s.heap ∧ (∀ h i1, h.get? i1 = some o → k.it h i1 0) ∧ ∀ a ∈ k.ar, a < s.heap.objs.size
  | .l a, u, h, r => by
    cases (show u = .ref a from r)
    obtain ⟨its, rv, p, _⟩ := I.list h
    exact ⟨_, _, begins_list a its.toArray, p.isList, fun h i1 e => ⟨_, e, rfl, rfl⟩, fun b hb => by rw [show b = a by simpa [ar] using hb]; exact p.lt⟩
  | .t a, u, h, r => by
    cases (show u = .ref a from r)
    obtain ⟨its, rv, p, _⟩ := I.tuple h
    have p' : s.heap.IsTuple a its.toArray := p
    exact ⟨_, _, begins_tuple a its.toArray, p, fun h i1 e => ⟨_, e, rfl, rfl⟩, fun b hb => by
      rw [show b = a by simpa [ar] using hb]
      obtain ⟨o, e, _⟩ := p'
      exact Heap.lt_size e⟩
  | .s x, u, h, r => by
    obtain ⟨t, rfl⟩ := (show ∃ t, u = Value.str x t from r)
    exact ⟨_, _, begins_text x t, True.intro, fun h i1 e => ⟨t, _, e, rfl, rfl⟩, fun b hb => by simp [ar] at hb⟩
theorem at_inj (I : Inv X pins σ H s) {ys : List V} : ∀ {k : Kd}, k.at' X.K H xs → k.at' X.K H ys → xs = ys
  | .l _, h, h' => I.list_inj h h'
  | .t _, h, h' => I.tuple_inj h h'
  | .s _, h, h' => h.trans h'.symm
end
end Kd

/-- the items of two walked things, in new pairs -/
def ItzK (K : PySem.W.Frag) (k1 k2 : Kd) : It :=
  ⟨fun i H => ∃ (xs ys : List V), k1.at' K H xs ∧ k2.at' K H ys ∧ i < xs.length ∧ i < ys.length,
    fun i H v H' => ∃ T x y, v = .ref T ∧ H T = none ∧ H' = upd H T (.tup [x, y]) ∧ (∀ xs, k1.at' K H xs → xs[i]? = some x) ∧ ∀ ys, k2.at' K H ys → ys[i]? = some y,
    fun i H => ∃ xs ys : List V, k1.at' K H xs ∧ k2.at' K H ys ∧ i = min xs.length ys.length⟩
theorem turn_zipK {P : Program} {w : World} {K : PySem.W.Frag} {elts : List Expr} {kk : Nat} {tpos : Pos} {k1 k2 : Kd} {z TI TO i1 i2 : Addr} (S : ZipSep2 z TI TO i1 i2 (i1 :: k1.ar) (i2 :: k2.ar)) (n1 : ∀ a ∈ k1.ar, a ≠ i1) (n2 : ∀ a ∈ k2.ar, a ≠ i2) :
    Turn P w K (.Tuple elts kk tpos) (ItzK K k1 k2) [z, TI, TO, i1, i2] z (fun i h => IsZip h z TI TO .none ∧ IsTupOf2 h TI (.ref i1) (.ref i2) ∧ (∃ x y, IsTupOf2 h TO x y) ∧ k1.it h i1 i ∧ k2.it h i2 i) where
  mem := by simp
  obj := fun i h st c hc => by
    obtain ⟨hz, hTI, ⟨x, y, hTO⟩, h1, h2⟩ := st
    have e' : c = z ∨ c = TI ∨ c = TO ∨ c = i1 ∨ c = i2 := by simpa using hc
    rcases e' with q | q | q | q | q
    · rw [q]; exact ⟨_, hz, fun v q => nomatch q⟩
    · rw [q]; exact ⟨_, hTI, fun v q => nomatch q⟩
    · rw [q]; exact ⟨_, hTO, fun v q => nomatch q⟩
    · rw [q]; exact Kd.it_obj h1
    · rw [q]; exact Kd.it_obj h2
  keep := fun i h h' st k => by
    obtain ⟨hz, hTI, ⟨x, y, hTO⟩, h1, h2⟩ := st
    exact ⟨k z (by simp) _ hz, k TI (by simp) _ hTI, ⟨x, y, k TO (by simp) _ hTO⟩, Kd.it_keep (fun o q => k i1 (by simp) o q) h1, Kd.it_keep (fun o q => k i2 (by simp) o q) h2⟩
  item := by
    intro X hP hw hK hc i pins s σ H E I hf st hg
    subst hP hw hK
    obtain ⟨hz, hTI, ⟨x0, y0, hTO⟩, h1, h2⟩ := st
    obtain ⟨xs, ys, hqx, hqy, hx, hy⟩ := hg
    obtain ⟨P1, St1, D1, s1, g1, r1⟩ := Kd.draws I (I.ok.hd hc) hqx h1 n1
    obtain ⟨P2, St2, D2, s2, g2, r2⟩ := Kd.draws I (I.ok.hd hc) hqy h2 n2
    have hzl : z < s.heap.objs.size := Heap.lt_size hz
    refine wpAny_pyNext_zipD2_item S D1 D2 hz hTI hTO s1 s2 hx hy fun u u2 h' tk p1 p2 z' TO' st1 st2 hT hsz hk => ?_
    obtain ⟨x, hxi, ru⟩ := r1 _ _ p1
    obtain ⟨y, hyi, ru2⟩ := r2 _ _ p2
    refine ⟨_, rfl, wpAny_letOwnedTupleGo_zip (s := { s with heap := h', toks := tk }) z' fun h'' z'' sb => ?_⟩
    have hT2 : h''.get? s.heap.objs.size = some { cls := .type "tuple", data := .seq #[u, u2] } := (sb.2 _ (Nat.ne_of_gt hzl)).trans hT
    have new : ObjOk X.prog X.w (upd H s.heap.objs.size (.tup [x, y])) h'' s.heap.objs.size (.tup [x, y]) :=
      ⟨by show 2 ≤ sizeLine; decide, [u, u2], .cons ru (.cons ru2 .nil), ⟨_, hT2, rfl, _, rfl⟩⟩
    have I1 : Inv X pins σ (upd H s.heap.objs.size (.tup [x, y])) { s with heap := h'', toks := tk } :=
      I.turnedNew (t' := tk) (ch := [z, TI, TO, i1, i2]) (fun c o hb q => (sb.2 c (fun q' => hb (by simp [q']))).trans (hk c o (fun q' => hb (by simp [q'])) (fun q' => hb (by simp [q'])) (fun q' => hb (by simp [q'])) (fun q' => hb (by simp [q'])) q)) hf (Nat.le_refl _) new
    refine ⟨.ref s.heap.objs.size, _, I1, rfl, ⟨_, x, y, rfl, I.hok.fresh (Nat.le_refl _), rfl, fun l hl => by rw [Kd.at_inj I hl hqx]; exact hxi, fun l hl => by rw [Kd.at_inj I hl hqy]; exact hyi⟩, ⟨z'', ?_, ⟨u, u2, ?_⟩, ?_, ?_⟩, fun c hcm => ?_⟩
    · exact (sb.2 _ S.TIz).trans (hk _ _ S.TIz S.TITO S.TIi1 S.TIi2 hTI)
    · exact (sb.2 _ S.TOz).trans TO'
    · exact Kd.it_keep (fun o q => (sb.2 _ S.zi1.symm).trans q) (g1 _ _ st1)
    · exact Kd.it_keep (fun o q => (sb.2 _ S.zi2.symm).trans q) (g2 _ _ st2)
    · have hlt : c < s.heap.objs.size := by
        have e' : c = z ∨ c = TI ∨ c = TO ∨ c = i1 ∨ c = i2 := by simpa using hcm
        rcases e' with q | q | q | q | q
        · rw [q]; exact hzl
        · rw [q]; exact Heap.lt_size hTI
        · rw [q]; exact Heap.lt_size hTO
        · rw [q]; obtain ⟨_, e1, _⟩ := Kd.it_obj h1; exact Heap.lt_size e1
        · rw [q]; obtain ⟨_, e2, _⟩ := Kd.it_obj h2; exact Heap.lt_size e2
      rw [upd_ne (Nat.ne_of_lt hlt)]
      exact (hf c hcm).1
  done := by
    intro X hP hw hK hc i pins s σ H E I hf st hg
    subst hP hw hK
    obtain ⟨hz, hTI, ⟨x0, y0, hTO⟩, h1, h2⟩ := st
    obtain ⟨xs, ys, hqx, hqy, hend⟩ := hg
    obtain ⟨P1, St1, D1, s1, g1, r1⟩ := Kd.draws I (I.ok.hd hc) hqx h1 n1
    obtain ⟨P2, St2, D2, s2, g2, r2⟩ := Kd.draws I (I.ok.hd hc) hqy h2 n2
    exact wpAny_pyNext_zipD2_end S D1 D2 hz hTI hTO s1 s2 (by omega) (by omega) (by omega) fun h' tk hk => ⟨rfl, I.turnedL (t' := tk) (ch := [z, TI, TO, i1, i2]) (fun c o hb q =>
      hk c o (fun q' => hb (by simp [q'])) (fun q' => hb (by simp [q'])) (fun q' => hb (by simp [q'])) (fun q' => hb (by simp [q'])) q) hf⟩
  self := fun A i s Q E st h => wpAny_pyIter_zip st.1 h
def iZipK (K : PySem.W.Frag) (ta : TA) : TI := fun σ H R => ta σ H fun vs H1 => ∃ (k1 k2 : Kd) (xs ys : List V), vs = [k1.v, k2.v] ∧ k1.at' K H1 xs ∧ k2.at' K H1 ys ∧ R (ItzK K k1 k2) H1
theorem pi_zipK {X : Cx} {e e2 : Expr} {ta : TA} {p pos tpos : Pos} {elts : List Expr} {kk : Nat} (hg : Gl X "zip") (hm : X.mg "zip" = none) (ha : PA X [e, e2] ta)
    (hs : starEach [e, e2] X.env = (false, eval e X.env) :: starEach [e2] X.env := by rfl) (hpl : (backTo pos (starEach [e2] X.env)).any (·.1) = false := by rfl) :
    PI X (.Tuple elts kk tpos) (.Call (.Name "zip" p) [e, e2] [] pos) (iZipK X.K ta) := by
  refine ⟨fun pins s σ H R I h => ?_⟩
  refine Call_ (ld_blt I hg hm PyProof.Rows.boot_zip (PyProof.Rows.callWith_type1 (thn (ha.run pos pins s σ H _ I h) fun us s1 ⟨vs, H1, I1, r1, q1⟩ => ?_) hs hpl))
  obtain ⟨k1, k2, xs, ys, rfl, hqx, hqy, q⟩ := q1
  obtain ⟨u1, u2, rfl, ru1, ru2⟩ := vals2 r1
  have fresh5 : ∀ c, c ∈ [s1.heap.objs.size + 4, s1.heap.objs.size + 2, s1.heap.objs.size + 3, s1.heap.objs.size, s1.heap.objs.size + 1] → FpOk X pins H1 c := fun c hcm => by
    have e' : c = s1.heap.objs.size + 4 ∨ c = s1.heap.objs.size + 2 ∨ c = s1.heap.objs.size + 3 ∨ c = s1.heap.objs.size ∨ c = s1.heap.objs.size + 1 := by simpa using hcm
    have hle : s1.heap.objs.size ≤ c := by
      rcases e' with z | z | z | z | z
      · rw [z]; exact Nat.le_add_right _ _
      · rw [z]; exact Nat.le_add_right _ _
      · rw [z]; exact Nat.le_add_right _ _
      · rw [z]; exact Nat.le_refl _
      · rw [z]; exact Nat.le_add_right _ _
    exact I1.fpOk hle (I1.hok.fresh hle)
  obtain ⟨o1, P1, B1, b1, c1, l1⟩ := Kd.begins I1 hqx ru1
  obtain ⟨o2, P2, B2, b2, c2, l2⟩ := Kd.begins I1 hqy ru2
  refine zip_begins2 B1 B2 b1 b2 fun h' hz hTI hTO h1 h2 hsz hk => wpAny_pyIter_zip hz ?_
  have I2 : Inv X pins σ H1 { s1 with heap := h' } := I1.kept (t' := s1.toks) hk
  exact ⟨s1.heap.objs.size + 4, [s1.heap.objs.size + 4, s1.heap.objs.size + 2, s1.heap.objs.size + 3, s1.heap.objs.size, s1.heap.objs.size + 1], _, _, H1, rfl, I2,
    turn_zipK (zip_sep2 l1 l2) (fun a ha => Nat.ne_of_lt (l1 a ha)) (fun a ha => Nat.ne_of_lt (Nat.lt_succ_of_lt (l2 a ha))), ⟨hz, hTI, ⟨_, _, hTO⟩, c1 _ _ h1, c2 _ _ h2⟩, fresh5, q⟩

/-- the items of a walked thing, counted, in new pairs -/
def IteK (K : PySem.W.Frag) (k : Kd) : It :=
  ⟨fun i H => ∃ (xs : List V), k.at' K H xs ∧ i < xs.length, fun i H v H' => ∃ T x, v = .ref T ∧ H T = none ∧ H' = upd H T (.tup [.int (i : Nat), x]) ∧ ∀ xs, k.at' K H xs → xs[i]? = some x, fun i H => ∃ xs : List V, k.at' K H xs ∧ i = xs.length⟩
theorem turn_enumK {P : Program} {w : World} {K : PySem.W.Frag} {elts : List Expr} {kk : Nat} {tpos : Pos} {k : Kd} {e it : Addr} (hne : e ≠ it) (he' : ∀ a ∈ k.ar, a ≠ e) (hi' : ∀ a ∈ k.ar, a ≠ it) :
    Turn P w K (.Tuple elts kk tpos) (IteK K k) [e, it] e (fun i h => (∃ old, IsEnum h e it ((i : Nat) : Int) old) ∧ k.it h it i) where
  mem := by simp
  obj := fun i h st b hb => by
    obtain ⟨⟨old, he⟩, hi⟩ := st
    have e' : b = e ∨ b = it := by simpa using hb
    rcases e' with z | z
    · rw [z]; exact ⟨_, he, fun v q => nomatch q⟩
    · rw [z]; exact Kd.it_obj hi
  keep := fun i h h' st k => let ⟨⟨old, he⟩, hi⟩ := st; ⟨⟨old, k e (by simp) _ he⟩, Kd.it_keep (fun o q => k it (by simp) o q) hi⟩
  item := by
    intro X hP hw hK hc i pins s σ H E I hf st hg
    subst hP hw hK
    obtain ⟨⟨old, he⟩, hit⟩ := st
    obtain ⟨xs, hq, hx⟩ := hg
    obtain ⟨P1, St1, D1, s1, g1, r1⟩ := Kd.draws I (I.ok.hd hc) hq hit hi'
    have hel : e < s.heap.objs.size := Heap.lt_size he
    have hil : it < s.heap.objs.size := by obtain ⟨_, q, _⟩ := Kd.it_obj hit; exact Heap.lt_size q
    have hef : e ∉ it :: k.ar := fun q => by
      rcases List.mem_cons.mp q with q | q
      · exact hne q
      · exact he' e q rfl
    refine wpAny_pyNext_enum_itemD D1 he s1 hx hne hef fun u h' tk p1 ho st1 hT hsz hk => ?_
    obtain ⟨x, hxi, ru⟩ := r1 _ _ p1
    refine ⟨_, rfl, wpAny_letOwnedTupleGo_enum (s := { s with heap := h', toks := tk + 1 }) ho fun h'' he'' sb => ?_⟩
    have hT2 : h''.get? s.heap.objs.size = some { cls := .type "tuple", data := .seq #[.int i tk, u] } := (sb.2 _ (Nat.ne_of_gt hel)).trans hT
    have new : ObjOk X.prog X.w (upd H s.heap.objs.size (.tup [.int (i : Nat), x])) h'' s.heap.objs.size (.tup [.int (i : Nat), x]) :=
      ⟨by show 2 ≤ sizeLine; decide, [.int i tk, u], .cons ⟨_, rfl⟩ (.cons ru .nil), ⟨_, hT2, rfl, _, rfl⟩⟩
    have I1 : Inv X pins σ (upd H s.heap.objs.size (.tup [.int (i : Nat), x])) { s with heap := h'', toks := tk + 1 } :=
      I.turnedNew (ch := [e, it]) (fun b ob hb q => (sb.2 b (fun z => hb (by simp [z]))).trans (hk b ob (fun z => hb (by simp [z])) (fun z => hb (by simp [z])) q)) hf (Nat.le_refl _) new
    refine ⟨.ref s.heap.objs.size, _, I1, rfl, ⟨_, x, rfl, I.hok.fresh (Nat.le_refl _), rfl, fun ys hy => by rw [Kd.at_inj I hy hq]; exact hxi⟩, ⟨⟨u, ?_⟩, Kd.it_keep (fun o q => (sb.2 it (Ne.symm hne)).trans q) (g1 _ _ st1)⟩, fun b hb => ?_⟩
    · have e1 : ((i + 1 : Nat) : Int) = (i : Int) + 1 := by omega
      rw [e1]; exact he''
    · have hb' : b < s.heap.objs.size := by
        have e' : b = e ∨ b = it := by simpa using hb
        rcases e' with z | z
        · rw [z]; exact hel
        · rw [z]; exact hil
      rw [upd_ne (Nat.ne_of_lt hb')]
      exact (hf b hb).1
  done := by
    intro X hP hw hK hc i pins s σ H E I hf st hg
    subst hP hw hK
    obtain ⟨⟨old, he⟩, hit⟩ := st
    obtain ⟨xs, hq, hx⟩ := hg
    obtain ⟨P1, St1, D1, s1, g1, r1⟩ := Kd.draws I (I.ok.hd hc) hq hit hi'
    obtain ⟨f0, f1, f2, f3, f4, f5⟩ := hf it (by simp)
    subst hx
    exact wpAny_pyNext_enum_endD D1 he s1 fun h' eb => ⟨rfl, I.turned (t' := s.toks) (fun b o hb q => eb b o hb q) f0 f1 f3 f4 f5⟩
  self := fun A i s Q E st h => let ⟨⟨_, he⟩, _⟩ := st; wpAny_pyIter_enum he h
theorem meets_enum1 {v : Value} {o : Obj} {H : Heap → Prop} (B : Begins v o H) :
    Meets (Builtin.«enumerate.__new__» ⟨[.type "enumerate", v], []⟩) (fun _ R s => H s.heap ∧
      R (.ok (.ret (.ref (s.heap.push o).objs.size))) { s with heap := (s.heap.push o).push { cls := .type "enumerate", data := .fields #[.none, .bool false, .ref s.heap.objs.size, rawInt 0, .none, .none] } }) :=
  .of_wp fun prog w A R s h => by
    obtain ⟨hp, g, d, tk, os⟩ := s; obtain ⟨h1, h⟩ := h
    have hsub := sub_enumerate
    have q1 : ∀ {A' : Around} {E : Value → Shared → Prop} {Q : Value → Shared → Prop}, Q (.ref hp.objs.size) ⟨hp.push o, g, d, tk, os⟩ → wpAny (model prog w) A' (pyIter v) Q E ⟨hp, g, d, tk, os⟩ :=
      fun q => B.iter prog w _ _ ⟨hp, g, d, tk, os⟩ _ h1 q
    wp_walk using q1
    refine wpAny_stack_any fun st => wpAny_pure ?_
    split
    · rename_i c _ _ _ _ _
      cases (c == Value.type "enumerate")
      · wp_walk using q1
        exact ⟨_, rfl, h⟩
      · wp_walk using q1
        exact ⟨_, rfl, h⟩
    · wp_walk using q1
      exact ⟨_, rfl, h⟩
theorem enum_begins1 {prog : Program} {w : World} {A : Around} {E : Value → Shared → Prop} {s : Shared} {v : Value} {o : Obj} {H : Heap → Prop} {Q : Value → Shared → Prop} (B : Begins v o H) (h1 : H s.heap)
    (h : ∀ h', IsEnum h' (s.heap.objs.size + 1) s.heap.objs.size 0 .none → h'.get? s.heap.objs.size = some o → h'.objs.size = s.heap.objs.size + 2 →
      (∀ b o, s.heap.get? b = some o → h'.get? b = some o) → Q (.ref (s.heap.objs.size + 1)) { s with heap := h' }) :
    wpAny (model prog w) A (call (.type "enumerate") [v]) Q E s := by
  refine callType_new F.called_enumerate (by decide) (F.typeCall_enumerate_1 _) (F.newCall_enumerate_1 _) (fun obj => F.args_object_init_2 obj _) F.entry_enumerate_new (meets_enum1 B) ⟨h1, ?_⟩
  have hz : (s.heap.push o).objs.size = s.heap.objs.size + 1 := Heap.size_push ..
  show _ ∧ _
  rw [hz]
  have he : IsEnum ((s.heap.push o).push { cls := .type "enumerate", data := .fields #[.none, .bool false, .ref s.heap.objs.size, rawInt 0, .none, .none] }) (s.heap.objs.size + 1) s.heap.objs.size 0 .none := by
    have := Heap.get?_push_size (s.heap.push o) (o := { cls := .type "enumerate", data := .fields #[.none, .bool false, .ref s.heap.objs.size, rawInt 0, .none, .none] }) rfl
    rw [hz] at this; exact this
  refine ⟨⟨_, he, rfl⟩, h _ he (Heap.get?_push_of_some _ (Heap.get?_push_size _ B.free)) (by rw [Heap.size_push, hz]) fun b o x => Heap.get?_push_of_some _ (Heap.get?_push_of_some _ x)⟩
def iEnumK (K : PySem.W.Frag) (ta : TA) : TI := fun σ H R => ta σ H fun vs H1 => ∃ (k : Kd) (xs : List V), vs = [k.v] ∧ k.at' K H1 xs ∧ R (IteK K k) H1
theorem pi_enumK {X : Cx} {e : Expr} {ta : TA} {p pos tpos : Pos} {elts : List Expr} {kk : Nat} (hg : Gl X "enumerate") (hm : X.mg "enumerate" = none) (ha : PA X [e] ta) (hs : starEach [e] X.env = [(false, eval e X.env)] := by rfl) :
    PI X (.Tuple elts kk tpos) (.Call (.Name "enumerate" p) [e] [] pos) (iEnumK X.K ta) := by
  refine ⟨fun pins s σ H R I h => ?_⟩
  refine Call_ (ld_blt I hg hm boot_enumerate (PyProof.Rows.callWith_type1 (thn (ha.run pos pins s σ H _ I h) fun us s1 ⟨vs, H1, I1, r1, q1⟩ => ?_) hs rfl))
  obtain ⟨k, xs, rfl, hq, q⟩ := q1
  obtain ⟨u, rfl, ru⟩ := vals1 r1
  obtain ⟨o1, P1, B1, b1, c1, l1⟩ := Kd.begins I1 hq ru
  refine enum_begins1 B1 b1 fun h' he hit hsz hk => wpAny_pyIter_enum he ?_
  have I2 : Inv X pins σ H1 { s1 with heap := h' } := I1.kept (t' := s1.toks) hk
  refine ⟨s1.heap.objs.size + 1, [s1.heap.objs.size + 1, s1.heap.objs.size], _, _, H1, rfl, I2, turn_enumK (k := k) (e := s1.heap.objs.size + 1) (it := s1.heap.objs.size) (Nat.succ_ne_self _) (fun a ha => Nat.ne_of_lt (Nat.lt_succ_of_lt (l1 a ha))) (fun a ha => Nat.ne_of_lt (l1 a ha)), ⟨⟨.none, he⟩, c1 _ _ hit⟩, fun b hb => ?_, q⟩
  have e' : b = s1.heap.objs.size + 1 ∨ b = s1.heap.objs.size := by simpa using hb
  have hle : s1.heap.objs.size ≤ b := by
    rcases e' with z | z
    · rw [z]; exact Nat.le_add_right _ _
    · rw [z]; exact Nat.le_refl _
  exact I1.fpOk hle (I1.hok.fresh hle)

/-! ### the meaning -/
section
variable {K : PySem.W.Frag} {F : Hp}
theorem Reps.chars {x : Str} : Reps K F (P0.chars x) (x.cps.toList.map fun c => V.str ⟨#[c]⟩) := by
  unfold P0.chars
  induction x.cps.toList with
  | nil => exact .nil
  | cons c t ih => exact .cons (.str _) ih
theorem kd_of {d : Dv} {v : V} {ds : List Dv} (h : Rep K F d v) (hw : walk? d = some ds) : ∃ (k : Kd) (vs : List V), k.v = v ∧ k.at' K F vs ∧ Reps K F ds vs := by
  cases h with
  | lst a b => cases hw; exact ⟨.l _, _, rfl, SqL.of a, b⟩
  | rls a b => cases hw; exact ⟨.l _, _, rfl, a, b⟩
  | tup a b => cases hw; exact ⟨.t _, _, rfl, a, b⟩
  | str x => cases hw; exact ⟨.s x, _, rfl, rfl, Reps.chars⟩
  | _ => cases hw
theorem itOk_zipK {k1 k2 : Kd} {vs us : List V} {ds es : List Dv} (h : k1.at' K F vs) (h' : k2.at' K F us) (r : Reps K F ds vs) (r' : Reps K F es us) : ItOk K (ItzK K k1 k2) F (zipD ds es) where
  stop := fun F1 H1 e1 e2 => ⟨vs, us, Kd.ext e2 (Kd.ext e1 h), Kd.ext e2 (Kd.ext e1 h'), by
    have : (zipD ds es).length = min ds.length es.length := by simp [zipD]
    rw [this, r.length, r'.length]⟩
  go := fun i F1 H1 hi e1 e2 => by
    have : (zipD ds es).length = min ds.length es.length := by simp [zipD]
    rw [this, r.length, r'.length] at hi
    exact ⟨vs, us, Kd.ext e2 (Kd.ext e1 h), Kd.ext e2 (Kd.ext e1 h'), by omega, by omega⟩
  yld := fun i d F1 H1 x H2 hd e1 e2 hy => by
    obtain ⟨T, y, z, rfl, hT, rfl, k, k'⟩ := hy
    obtain ⟨p, q, hp, hq, rfl⟩ := zipD_at hd
    obtain ⟨v, h1, h2⟩ := r.get hp
    obtain ⟨u, h3, h4⟩ := r'.get hq
    have z1 := k vs (Kd.ext e2 (Kd.ext e1 h))
    rw [h1] at z1; cases z1
    have z2 := k' us (Kd.ext e2 (Kd.ext e1 h'))
    rw [h3] at z2; cases z2
    exact .inr ⟨T, _, _, rfl, hT, rfl, rfl, .cons (h2.mono e1) (.cons (h4.mono e1) .nil)⟩
theorem itOk_enumK {k : Kd} {vs : List V} {ds : List Dv} (h : k.at' K F vs) (r : Reps K F ds vs) : ItOk K (IteK K k) F (enumD ds) where
  stop := fun F1 H1 e1 e2 => ⟨vs, Kd.ext e2 (Kd.ext e1 h), by
    have : (enumD ds).length = ds.length := by simp [enumD]
    rw [this, r.length]⟩
  go := fun i F1 H1 hi e1 e2 => by
    have : (enumD ds).length = ds.length := by simp [enumD]
    rw [this, r.length] at hi
    exact ⟨vs, Kd.ext e2 (Kd.ext e1 h), hi⟩
  yld := fun i d F1 H1 x H2 hd e1 e2 hy => by
    obtain ⟨T, y, rfl, hT, rfl, k⟩ := hy
    obtain ⟨p, hp, rfl⟩ := enumD_at hd
    obtain ⟨v, h1, h2⟩ := r.get hp
    have z1 := k vs (Kd.ext e2 (Kd.ext e1 h))
    rw [h1] at z1; cases z1
    exact .inr ⟨T, _, _, rfl, hT, rfl, rfl, .cons (.int _) (.cons (h2.mono e1) .nil)⟩
end
section
variable {X : Cx} {W : Wh} {pos p : Pos}
def iZip2 (ma : M (List AV)) : M (List Dv) := do
  let as ← ma
  let ds ← aliL as
  match ds with
  | [a, b] => do
    let xs ← M.opt (walk? a)
    let ys ← M.opt (walk? b)
    pure (zipD xs ys)
  | _ => M.bad
theorem si_zip2 {a b : Expr} {tpos : Pos} {elts : List Expr} {kk : Nat} {ma : M (List AV)} (hg : Gl X "zip") (hm : X.mg "zip" = none) (ha : SA X W [a, b] ma) (hs : starEach [a, b] X.env = (false, eval a X.env) :: starEach [b] X.env := by rfl)
    (hpl : (backTo pos (starEach [b] X.env)).any (·.1) = false := by rfl) : SI X W (.Tuple elts kk tpos) (.Call (.Name "zip" p) [a, b] [] pos) (iZip2 ma) := by
  obtain ⟨t, pt, qt⟩ := ha.ex
  refine ⟨_, pi_zipK hg hm pt hs hpl, fun g hw F ρ σ H R rel z => ?_⟩
  unfold iZip2 at z
  rw [RP_bnd] at z
  refine qt g hw F ρ σ H _ rel (z.imp (fun as ρ1 z1 => ?_) fun _ _ k => k)
  intro vs F1 H1 e1 rel1 ok1
  rw [RP_bnd] at z1
  obtain ⟨ds, F2, ρ2, e2, r2, h2, z2⟩ := aliL_ok rel1 ok1 z1
  split at z2
  · rw [RP_bnd] at z2
    obtain ⟨xs, hx, z2⟩ := RP_opt z2
    rw [RP_bnd] at z2
    obtain ⟨ys, hy, z2⟩ := RP_opt z2
    obtain ⟨v, u, rfl, h3, h4⟩ := rep2 h2
    obtain ⟨k1, us, rfl, q1, q2⟩ := kd_of h3 hx
    obtain ⟨k2, ws, rfl, q3, q4⟩ := kd_of h4 hy
    exact ⟨k1, k2, us, ws, rfl, Kd.ext r2.ext q1, Kd.ext r2.ext q3, z2 _ F2 H1 (e1.trans e2) r2 (itOk_zipK q1 q3 q2 q4)⟩
  · exact z2.elim
def iEnum1 (ma : M (List AV)) : M (List Dv) := do
  let as ← ma
  let ds ← aliL as
  match ds with
  | [a] => do
    let xs ← M.opt (walk? a)
    pure (enumD xs)
  | _ => M.bad
theorem si_enum1 {a : Expr} {tpos : Pos} {elts : List Expr} {kk : Nat} {ma : M (List AV)} (hg : Gl X "enumerate") (hm : X.mg "enumerate" = none) (ha : SA X W [a] ma) (hs : starEach [a] X.env = [(false, eval a X.env)] := by rfl) :
    SI X W (.Tuple elts kk tpos) (.Call (.Name "enumerate" p) [a] [] pos) (iEnum1 ma) := by
  obtain ⟨t, pt, qt⟩ := ha.ex
  refine ⟨_, pi_enumK hg hm pt hs, fun g hw F ρ σ H R rel z => ?_⟩
  unfold iEnum1 at z
  rw [RP_bnd] at z
  refine qt g hw F ρ σ H _ rel (z.imp (fun as ρ1 z1 => ?_) fun _ _ k => k)
  intro vs F1 H1 e1 rel1 ok1
  rw [RP_bnd] at z1
  obtain ⟨ds, F2, ρ2, e2, r2, h2, z2⟩ := aliL_ok rel1 ok1 z1
  split at z2
  · rw [RP_bnd] at z2
    obtain ⟨xs, hx, z2⟩ := RP_opt z2
    obtain ⟨v, rfl, h3⟩ := rep1 h2
    obtain ⟨k1, us, rfl, q1, q2⟩ := kd_of h3 hx
    exact ⟨k1, us, rfl, Kd.ext r2.ext q1, z2 _ F2 H1 (e1.trans e2) r2 (itOk_enumK q1 q2)⟩
  · exact z2.elim
end
end P0
end
section
set_option Elab.async false
set_option linter.all false
set_option maxRecDepth 100000
set_option maxHeartbeats 4000000
/-! P0, owned trees: made of the things of slots, read as if frozen, changed at a place. -/
namespace P0
open PySem PySem.Spec L2
open PyProof.Rows hiding St

section
variable {K : PySem.W.Frag} {g : Gx} {F H : Hp} {ρ : VE} {σ : L2.St} {R S : List Addr} {p : Addr} {o : HO} {i : Nat}
theorem hold_hold : (g.hold (cells R H)).hold (cells S H) = g.hold (cells (R ++ S) H) := by
  have : plus (cells S H) (plus (cells R H) g.held) = plus (cells (R ++ S) H) g.held := by
    funext b
    by_cases h1 : b ∈ S <;> by_cases h2 : b ∈ R <;> cases hb : H b <;> simp [plus, cells, h1, h2, hb]
  show ({ g with held := plus (cells S H) (plus (cells R H) g.held) } : Gx) = { g with held := plus (cells (R ++ S) H) g.held }
  rw [this]
theorem one_cells (h : H p = some o) : one p o = cells [p] H := by
  funext b
  unfold cells
  by_cases z : b = p
  · rw [if_pos (List.mem_singleton.mpr z), z, one_same, h]
  · rw [one_ne z, if_neg (fun q => z (List.mem_singleton.mp q))]
theorem cells_upd (h : p ∉ R) : cells R (upd H p o) = cells R H := by
  funext b
  unfold cells
  by_cases z : b ∈ R
  · rw [if_pos z, if_pos z, upd_ne (fun q => h (by rw [← q]; exact z))]
  · rw [if_neg z, if_neg z]
theorem hold_nil : g.hold (cells [] H) = g := by
  unfold Gx.hold
  have : plus (cells [] H) g.held = g.held := by
    funext b
    exact plus_none (cells_out List.not_mem_nil)
  rw [this]
end

/-! ### a list, a tuple of what slots own -/
def fzs (ds : List Dv) : List Ot := ds.map Ot.fz
def fzk (kvs : List (Key × Dv)) : List (Key × Ot) := kvs.map fun p => (p.1, Ot.fz p.2)
def otOf : Dv → Option Ot
  | .lst xs => some (.lst (fzs xs))
  | .dct kvs => some (.dct (fzk kvs))
  | _ => none
def mvA (a : AV) : M Ot := fun ρ => match a with
  | .d d => .ok (.fz d) ρ
  | .bor i => match ρ[i]? with
    | some (.mu false d) => match otOf d with
      | some t => .ok t (ρ.set i .no)
      | none => .bad
    | some (.ot t) => .ok t (ρ.set i .no)
    | some (.val d) => .ok (.fz d) ρ
    | _ => .bad
def mvL : List AV → M (List Ot)
  | [] => pure []
  | a :: r => do
    let t ← mvA a
    let ts ← mvL r
    pure (t :: ts)
section
variable {K : PySem.W.Frag} {g : Gx} {F H : Hp} {ρ : VE} {σ : L2.St}
theorem repTs_fz {ds : List Dv} {vs : List V} (h : Reps K F ds vs) : RepTs K F H (fzs ds) vs [] := by
  have : ∀ {ds : List Dv} {vs : List V}, Reps K F ds vs → RepTs K F H (fzs ds) vs [] := by
    intro ds
    induction ds with
    | nil => intro vs h; cases h; exact .nil
    | cons d ds ih =>
      intro vs h
      cases h with
      | cons r t => exact RepTs.cons (.fz r) (ih t)
  exact this h
theorem fzk_zip : ∀ (ks : List Key) (xs : List Dv), fzk (ks.zip xs) = ks.zip (fzs xs)
  | [], _ => rfl
  | _ :: _, [] => rfl
  | k :: ks, x :: xs => by
    have := fzk_zip ks xs
    unfold fzk fzs at this ⊢
    rw [List.zip_cons_cons, List.map_cons, this, List.map_cons, List.zip_cons_cons]
theorem otOf_ok {d : Dv} {o : HO} {p : Addr} {t : Ot} (h : RepO K F d o) (hp : H p = some o) (ht : otOf d = some t) : RepT K F H t (.ref p) [p] := by
  cases h with
  | lst h => cases ht; exact .lst hp (repTs_fz h)
  | @dct ks xs vs l h =>
    cases ht
    rw [fzk_zip]
    exact .dct hp (by rw [l]; unfold fzs; rw [List.length_map]) (repTs_fz h)
  | dcT l h => cases ht
  | ins l h => cases ht
theorem mvA_ok {R : List Addr} {a : AV} {v : V} {ok : Ot → VE → Prop} {ex : Er → VE → Prop} (r : Rel K (g.hold (cells R H)) F ρ σ H) (hR : ∀ a ∈ R, H a ≠ none) (h : AvOk K F σ a v) (z : RP (mvA a ρ) ok ex) :
    ∃ t S ρ', RepT K F H t v S ∧ S.Nodup ∧ (∀ a ∈ S, a ∉ R ∧ g.H0 a = none ∧ g.held a = none) ∧ Rel K (g.hold (cells (R ++ S) H)) F ρ' σ H ∧ ok t ρ' := by
  cases a with
  | d d => exact ⟨_, [], ρ, .fz h, List.nodup_nil, fun a q => (by cases q), by rw [List.append_nil]; exact r, z⟩
  | bor i =>
    unfold mvA at z
    cases e : ρ[i]? with
    | none => simp only [e] at z; exact z.elim
    | some s =>
      simp only [e] at z
      have out : ∀ {a : Addr}, (g.hold (cells R H)).held a = none → a ∉ R ∧ g.held a = none := fun {a} q => by
        obtain ⟨q1, q2⟩ := plus_is q
        refine ⟨fun m => ?_, q2⟩
        rw [cells_in m] at q1
        exact hR a m q1
      cases s with
      | no => exact z.elim
      | exn => exact z.elim
      | val d =>
        obtain ⟨u, h1, h2⟩ := r.val i d e
        have h' : σ[i]? = some (some v) := h
        rw [h'] at h1; cases h1
        exact ⟨_, [], ρ, .fz h2, List.nodup_nil, fun a q => (by cases q), by rw [List.append_nil]; exact r, z⟩
      | ot t =>
        obtain ⟨u, S, h1, h2, h3, h4, r1⟩ := r.takeOt e
        have h' : σ[i]? = some (some v) := h
        rw [h'] at h1; cases h1
        rw [hold_hold] at r1
        exact ⟨t, S, _, h2, h3, fun a m => ⟨(out (h4 a m).2).1, (h4 a m).1, (out (h4 a m).2).2⟩, r1, z⟩
      | mu b d =>
        cases b with
        | true => exact z.elim
        | false =>
          cases q : otOf d with
          | none => simp only [q] at z; exact z.elim
          | some t =>
            simp only [q] at z
            obtain ⟨p, o, h1, h2, h3, h4, r1⟩ := r.takeMu e
            have h' : σ[i]? = some (some v) := h
            rw [h'] at h1; cases h1
            have hp := r1.heldAt.1
            rw [one_cells hp, hold_hold] at r1
            refine ⟨t, [p], _, otOf_ok h2 hp q, nodup1 p, fun a m => ?_, r1, z⟩
            rw [List.mem_singleton.mp m]
            exact ⟨(out h4).1, h3, (out h4).2⟩
theorem mvL_ok : ∀ {as : List AV} {vs : List V} {R : List Addr} {ρ : VE} {ok : List Ot → VE → Prop} {ex : Er → VE → Prop}, Rel K (g.hold (cells R H)) F ρ σ H → (∀ a ∈ R, H a ≠ none) → Paired (AvOk K F σ) as vs → RP (mvL as ρ) ok ex →
    ∃ ts S ρ', RepTs K F H ts vs S ∧ S.Nodup ∧ (∀ a ∈ S, a ∉ R ∧ g.H0 a = none ∧ g.held a = none) ∧ Rel K (g.hold (cells (R ++ S) H)) F ρ' σ H ∧ ok ts ρ'
  | [], _, R, ρ, ok, ex, r, _, h, z => by
    cases h
    exact ⟨[], [], ρ, .nil, List.nodup_nil, fun a q => (by cases q), by rw [List.append_nil]; exact r, z⟩
  | a :: as, _, R, ρ, ok, ex, r, hR, h, z => by
    cases h with
    | cons ha hs =>
      unfold mvL at z
      rw [RP_bnd] at z
      obtain ⟨t, S, ρ1, h1, h2, h3, r1, z1⟩ := mvA_ok r hR ha z
      rw [RP_bnd] at z1
      obtain ⟨ts, S2, ρ2, k1, k2, k3, r2, z2⟩ := mvL_ok r1 (fun a m => by
        rcases List.mem_append.mp m with m | m
        · exact hR a m
        · exact h1.there a m) hs z1
      refine ⟨t :: ts, S ++ S2, ρ2, .cons h1 k1, List.nodup_append.mpr ⟨h2, k2, fun a ha b hb z => (k3 b hb).1 (by rw [← z]; exact List.mem_append_right _ ha)⟩, fun a m => ?_, by rw [← List.append_assoc]; exact r2, z2⟩
      rcases List.mem_append.mp m with m | m
      · exact h3 a m
      · exact ⟨fun q => (k3 a m).1 (List.mem_append_left _ q), (k3 a m).2⟩
end
section
variable {X : Cx} {W : Wh} {e : Expr} {es : List Expr} {pos : Pos}
def eLstO (m : M (List AV)) : M RV := do
  let as ← m
  let ts ← mvL as
  M.grd (ts.length ≤ sizeLine)
  pure (.ow (.lst ts))
def eTupO (m : M (List AV)) : M RV := do
  let as ← m
  let ts ← mvL as
  M.grd (ts.length ≤ sizeLine)
  pure (.ow (.tup ts))
theorem owned_new {g : Gx} {F H : Hp} {ρ : VE} {σ : L2.St} {S : List Addr} {p : Addr} {o : HO} {t : Ot} (r : Rel X.K (g.hold (cells S H)) F ρ σ H) (hS : ∀ a ∈ S, H a ≠ none ∧ g.H0 a = none ∧ g.held a = none) (nd : S.Nodup) (hp : H p = none) (ht : RepT X.K F (upd H p o) t (.ref p) (p :: S)) :
    RvOk X.K g F ρ σ (upd H p o) (.ow t) (.ref p) ∧ Rel X.K g F ρ σ (upd H p o) := by
  have hn : p ∉ S := fun q => (hS p q).1 hp
  have r1 := r.allocH (o := o) hp
  rw [one_cells (H := upd H p o) upd_same, ← cells_upd (o := o) hn, hold_hold] at r1
  have hh : g.held p = none := by
    have := r.noHeld hp
    exact (plus_is this).2
  have h0 : g.H0 p = none := r.freeH0 hp
  have sw : cells (S ++ [p]) (upd H p o) = cells (p :: S) (upd H p o) := by
    funext b
    unfold cells
    have : b ∈ S ++ [p] ↔ b ∈ p :: S := by simp [or_comm]
    by_cases q : b ∈ S ++ [p]
    · rw [if_pos q, if_pos (this.mp q)]
    · rw [if_neg q, if_neg (fun z => q (this.mpr z))]
  rw [sw] at r1
  have all : ∀ a ∈ p :: S, g.H0 a = none ∧ g.held a = none := fun a m => by
    rcases List.mem_cons.mp m with rfl | m
    · exact ⟨h0, hh⟩
    · exact (hS a m).2
  exact ⟨⟨p :: S, ht, List.nodup_cons.mpr ⟨hn, nd⟩, all, r1⟩, r1.unhold fun b u q => (all b (cells_mem q)).2⟩
theorem se_lstO {m : M (List AV)} (h : SA X W es m) : SE X W (.List es pos) (eLstO m) := by
  obtain ⟨t, pt, qt⟩ := h.ex
  refine ⟨_, pe_lst pt, fun g hw F ρ σ H Q rel z => ?_⟩
  unfold eLstO at z
  rw [RP_bnd] at z
  refine qt g hw F ρ σ H _ rel (z.imp (fun as ρ1 z1 => ?_) fun _ _ k => k)
  intro vs F1 H1 e1 rel1 ok1
  rw [RP_bnd] at z1
  obtain ⟨ts, S, ρ2, k1, k2, k3, r2, z2⟩ := mvL_ok (R := []) (by rw [hold_nil]; exact rel1) (fun _ q => by cases q) ok1 z1
  rw [RP_bnd] at z2
  obtain ⟨hl, z3⟩ := RP_grd z2
  refine ⟨by rw [← k1.length]; exact hl, fun p hp => ?_⟩
  rw [List.nil_append] at r2
  obtain ⟨w1, w2⟩ := owned_new r2 (fun a m => ⟨k1.there a m, (k3 a m).2⟩) k2 hp (o := .lst vs) (.lst upd_same (k1.frame (Ext.refl F1) fun a m => upd_ne (fun q => k1.there a m (by rw [q]; exact hp))))
  exact z3 (.ref p) F1 _ e1 w2 w1
theorem se_tupO {m : M (List AV)} {x1} (h : SA X W es m) : SE X W (.Tuple es x1 pos) (eTupO m) := by
  obtain ⟨t, pt, qt⟩ := h.ex
  refine ⟨_, pe_tup pt, fun g hw F ρ σ H Q rel z => ?_⟩
  unfold eTupO at z
  rw [RP_bnd] at z
  refine qt g hw F ρ σ H _ rel (z.imp (fun as ρ1 z1 => ?_) fun _ _ k => k)
  intro vs F1 H1 e1 rel1 ok1
  rw [RP_bnd] at z1
  obtain ⟨ts, S, ρ2, k1, k2, k3, r2, z2⟩ := mvL_ok (R := []) (by rw [hold_nil]; exact rel1) (fun _ q => by cases q) ok1 z1
  rw [RP_bnd] at z2
  obtain ⟨hl, z3⟩ := RP_grd z2
  refine ⟨by rw [← k1.length]; exact hl, fun p hp => ?_⟩
  rw [List.nil_append] at r2
  obtain ⟨w1, w2⟩ := owned_new r2 (fun a m => ⟨k1.there a m, (k3 a m).2⟩) k2 hp (o := .tup vs) (.tup upd_same (k1.frame (Ext.refl F1) fun a m => upd_ne (fun q => k1.there a m (by rw [q]; exact hp))))
  exact z3 (.ref p) F1 _ e1 w2 w1
end
end P0
end
section
set_option Elab.async false
set_option linter.all false
set_option maxRecDepth 100000
set_option maxHeartbeats 4000000
/-! P0: a pure look at all that is owned; a place within an owned tree. -/
namespace P0
open PySem PySem.Spec L2
open PyProof.Rows hiding St

/-! ### all seen as frozen -/
def frzS : Sl → Sl
  | .mu _ d => .val d
  | .ot t => .val t.er
  | s => s
def frzE (ρ : VE) : VE := ρ.map frzS
theorem RepO.at' {K : PySem.W.Frag} {F : Hp} {d : Dv} {o : HO} {p : Addr} (h : RepO K F d o) (hp : F p = some o) : Rep K F d (.ref p) := by
  cases h with
  | lst h => exact .lst hp h
  | dct l h => exact .dct hp l h
  | dcT l h => exact .dcT hp l h
  | ins l h => exact .ins hp l h
section
variable {K : PySem.W.Frag} {g : Gx} {F F' H H' : Hp} {ρ : VE} {σ : L2.St}
theorem Rel.look' (r : Rel K g F ρ σ H) : ∃ F2, Ext F F2 ∧ Rel K ⟨H, F2, [], g.held, g.exa⟩ F2 (frzE ρ) σ H ∧ ∀ b o, F2 b = some o → F b = some o ∨ ∃ i s x R, ρ[i]? = some s ∧ SlOk K g F H i s x R ∧ b ∈ R ∧ H b = some o := by
  obtain ⟨Rs, w⟩ := r.own
  have inR : ∀ {i : Nat} {R : List Addr} {a : Addr}, Rs[i]? = some R → a ∈ R → a ∈ Rs.flatten := fun {i R a} hR ha => List.mem_flatten.mpr ⟨R, List.mem_of_getElem? hR, ha⟩
  have ofR : ∀ {a : Addr}, a ∈ Rs.flatten → F a = none ∧ g.held a = none := fun {a} m => by
    obtain ⟨R, hR, ha⟩ := List.mem_flatten.mp m
    obtain ⟨i, hi, e⟩ := List.getElem_of_mem hR
    have hg : Rs[i]? = some R := by rw [List.getElem?_eq_getElem hi, e]
    exact ⟨(w.out i R hg a ha).1, (w.out i R hg a ha).2.1⟩
  have eF : Ext F (plus (cells Rs.flatten H) F) := ext_plus fun b o e => (ofR (cells_mem e)).1
  have at2 : ∀ {i : Nat} {R : List Addr} {a : Addr} {o : HO}, Rs[i]? = some R → a ∈ R → H a = some o → plus (cells Rs.flatten H) F a = some o := fun {i R a o} hR ha e => plus_some (cells_at (inR hR ha) e)
  refine ⟨plus (cells Rs.flatten H) F, eF, { ext := fun b o e => ?_, f0 := Ext.refl _, new := fun b h => .inl h, keep := fun b o h _ => h, dom := fun b h => h, io := fun i p h => (by cases h), own := ⟨List.replicate ρ.length [], ?_⟩ }, fun b o e => ?_⟩
  rotate_left 2
  · rcases plus_or e with e | ⟨_, e⟩
    · have m := cells_mem e
      obtain ⟨R, hR, ha⟩ := List.mem_flatten.mp m
      obtain ⟨i, hi, e'⟩ := List.getElem_of_mem hR
      have hg : Rs[i]? = some R := by rw [List.getElem?_eq_getElem hi, e']
      obtain ⟨s, x, h1, h2, h3⟩ := w.ok' hg
      rw [cells_in m] at e
      exact .inr ⟨i, s, x, R, h1, h3, ha, e⟩
    · exact .inl e
  · rcases plus_or e with e | ⟨_, e⟩
    · have m := cells_mem e
      rw [cells_in m] at e; exact e
    · exact r.ext b o e
  · refine { len := by unfold frzE; rw [List.length_map]; exact w.len, lenR := by unfold frzE; rw [List.length_map, List.length_replicate], ok := fun i s x R h1 h2 h3 => ?_, nd := fun i R hR => ?_, dis := fun i j R S _ hR _ a ha => ?_, out := fun i R hR a ha => ?_, hel := fun b o e => ?_ }
    · obtain rfl : R = [] := by rw [List.getElem?_replicate] at h3; split at h3 <;> cases h3; rfl
      unfold frzE at h1
      rw [List.getElem?_map] at h1
      cases q : ρ[i]? with
      | none => rw [q] at h1; cases h1
      | some s0 =>
        rw [q] at h1
        obtain rfl := Option.some.inj h1
        obtain ⟨x', R', k1, k2, k3⟩ := w.at' q
        rw [h2] at k1; cases k1
        cases s0 with
        | no => rfl
        | val d => obtain ⟨⟨v, a1, a2⟩, _⟩ := k3; exact ⟨⟨v, a1, a2.mono eF⟩, rfl⟩
        | exn => obtain ⟨a, _⟩ := k3; exact ⟨a, rfl⟩
        | mu b d =>
          obtain ⟨p, o, a1, a2, a3, rfl, _⟩ := k3
          exact ⟨⟨.ref p, a1, (a3.mono eF).at' (at2 k2 List.mem_cons_self a2)⟩, rfl⟩
        | ot t =>
          obtain ⟨v, a1, a2, _⟩ := k3
          refine ⟨⟨v, a1, a2.rep eF fun a ha => ?_⟩, rfl⟩
          obtain ⟨u, e⟩ := Option.ne_none_iff_exists'.mp (a2.there a ha)
          rw [e]; exact at2 k2 ha e
    · rw [List.getElem?_replicate] at hR; split at hR <;> cases hR; exact List.nodup_nil
    · rw [List.getElem?_replicate] at hR; split at hR <;> cases hR; cases ha
    · rw [List.getElem?_replicate] at hR; split at hR <;> cases hR; cases ha
    · obtain ⟨h1, h2⟩ := w.hel b o e
      refine ⟨h1, ?_⟩
      rw [plus_none (cells_out fun m => ?_)]
      · exact h2
      · have := (ofR m).2
        have e' : g.held b = some o := e
        rw [this] at e'; cases e'
theorem Rel.look (r : Rel K g F ρ σ H) : ∃ F2, Ext F F2 ∧ Rel K ⟨H, F2, [], g.held, g.exa⟩ F2 (frzE ρ) σ H := let ⟨F2, a, b, _⟩ := r.look'; ⟨F2, a, b⟩
/-- nothing that stood was changed -/
theorem Rel.grow (r : Rel K g F ρ σ H) (k : ∀ b o, H b = some o → H' b = some o) : Rel K g F ρ σ H' where
  ext := fun b o e => k b o (r.ext b o e)
  f0 := r.f0
  new := r.new
  keep := fun b o e n => k b o (r.keep b o e n)
  dom := fun b e => by
    obtain ⟨u, q⟩ := Option.ne_none_iff_exists'.mp (r.dom b e)
    rw [k b u q]; exact Option.some_ne_none _
  io := r.io
  own := by
    obtain ⟨Rs, w⟩ := r.own
    refine ⟨Rs, w.frame (Ext.refl F) (fun i R hR a ha => ?_) (fun i R hR a ha => (w.out i R hR a ha).1) fun b o e => ⟨k b o (w.hel b o e).1, (w.hel b o e).2⟩⟩
    obtain ⟨u, q⟩ := Option.ne_none_iff_exists'.mp (w.there hR ha)
    rw [q]; exact k a u q
theorem Rep.unfrz {d : Dv} {v : V} (h : Rep K F' d v) (f : flatD d = true) : Rep K F d v := by
  cases h with
  | non => exact .non
  | bl b => exact .bl b
  | int i => exact .int i
  | str x => exact .str x
  | cl v => cases f
  | lst a b => cases f
  | rls a b => cases f
  | tup a b => cases f
  | dct a b => cases f
  | dcT a b => cases f
  | ins a b => cases f
end
def WOk (W : Wh) : Prop := ∀ (g : Gx) (F2 H : Hp), Ext g.F0 F2 → W.p g → W.p ⟨H, F2, [], g.held, g.exa⟩
theorem wok_of {w : WX} : WOk ⟨w, fun _ => True⟩ := fun _ _ _ _ _ => True.intro
theorem wok_suite {X : Cx} {a : Addr} {er : Er} {cls : Value} {d : Option Addr} : WOk (WS X a er cls d) := fun _ _ _ e h => ⟨h.1, h.2.mono e⟩
def flatRV : RV → Bool
  | .d d => flatD d
  | _ => false
def rd (m : M RV) : M RV := fun ρ => match m (frzE ρ) with
  | .ok r _ => if flatRV r = true then .ok r ρ else m ρ
  | _ => m ρ
def rdT (m : M Bool) : M Bool := fun ρ => match m (frzE ρ) with
  | .ok b _ => .ok b ρ
  | _ => m ρ
section
variable {X : Cx} {W : Wh} {e : Expr}
theorem SE.rd {m : M RV} (h : SE X W e m) (hw : WOk W) : SE X W e (rd m) := by
  obtain ⟨t, p, q⟩ := h.ex
  refine ⟨t, p, fun g hp F ρ σ H Q r z => ?_⟩
  unfold P0.rd at z
  cases hm : m (frzE ρ) with
  | bad => rw [hm] at z; exact q g hp F ρ σ H Q r z
  | exc er ρ1 => rw [hm] at z; exact q g hp F ρ σ H Q r z
  | ok rv ρ1 =>
    rw [hm] at z
    dsimp only at z
    split at z
    · rename_i hf
      obtain ⟨F2, e2, r2⟩ := r.look
      refine q _ (hw g F2 H (r.f0.trans e2) hp) F2 (frzE ρ) σ H Q r2 ?_
      rw [hm]
      intro v F' H' e3 r3 ok
      cases rv with
      | d d => exact z v F H' (Ext.refl F) (r.grow fun b o k => r3.keep b o k fun i => List.not_mem_nil) (Rep.unfrz ok hf)
      | fr d => cases hf
      | bor i => cases hf
      | ow t => cases hf
    · exact q g hp F ρ σ H Q r z
theorem STt.rd {m : M Bool} (h : STt X W e m) (hw : WOk W) : STt X W e (rdT m) := by
  obtain ⟨t, p, q⟩ := h.ex
  refine ⟨t, p, fun g hp F ρ σ H Q r z => ?_⟩
  unfold rdT at z
  cases hm : m (frzE ρ) with
  | bad => rw [hm] at z; exact q g hp F ρ σ H Q r z
  | exc er ρ1 => rw [hm] at z; exact q g hp F ρ σ H Q r z
  | ok b ρ1 =>
    rw [hm] at z
    obtain ⟨F2, e2, r2⟩ := r.look
    refine q _ (hw g F2 H (r.f0.trans e2) hp) F2 (frzE ρ) σ H Q r2 ?_
    rw [hm]
    intro F' H' e3 r3
    exact z F H' (Ext.refl F) (r.grow fun b o k => r3.keep b o k fun i => List.not_mem_nil)
end

/-! ### simple ints -/
structure SX (X : Cx) (e : Expr) (f : VE → Option Int) : Prop where
  ex : ∃ t, PE X e t ∧ ∀ g F ρ σ H Q k, Rel X.K g F ρ σ H → f ρ = some k → Q (V.int k) H → t σ H Q
def xC (k : Int) : VE → Option Int := fun _ => some k
def xV (i : Nat) : VE → Option Int := fun ρ => match (ρ[i]? : Option Sl) with
  | some (.val (.int k)) => some k
  | _ => none
def x2 (f : Int → Int → Int) (a b : VE → Option Int) : VE → Option Int := fun ρ => do
  let x ← a ρ
  let y ← b ρ
  pure (f x y)
def x1 (f : Int → Int) (a : VE → Option Int) : VE → Option Int := fun ρ => do
  let x ← a ρ
  pure (f x)
section
variable {X : Cx} {W : Wh} {a b e : Expr} {pos : Pos} {fa fb : VE → Option Int}
theorem sx_int {i j} : SX X (.Constant (.int i) j pos) (xC i) := ⟨_, pe_int, fun g F ρ σ H Q k r h q => by cases h; exact q⟩
theorem sx_var (i : Nat) {x : Str} (hN : X.N[i]? = some x := by rfl) (hv : Vis X.env.scope x := by first | exact Or.inl rfl | exact Or.inr (Or.inl rfl) | exact Or.inr (Or.inr rfl)) (hd : (x == ("__debug__" : Str)) = false := by decide)
    (hcd : (x == ("__classdict__" : Str)) = false := by decide) : SX X (.Name x pos) (xV i) := by
  refine ⟨_, pv i hN hv hd hcd, fun g F ρ σ H Q k r h q => ?_⟩
  unfold xV at h
  split at h
  · rename_i j e
    cases h
    obtain ⟨v, h1, h2⟩ := r.val i _ e
    cases h2
    exact ⟨_, h1, q⟩
  · cases h
theorem sx_op {op : Operator} {f : Int → Int → Int} (ho : OpR X (binaryOp op) (rI0 fun i j => .int (f i j))) (ha : SX X a fa) (hb : SX X b fb) : SX X (.BinOp a op b pos) (x2 f fa fb) := by
  obtain ⟨ta, pa, qa⟩ := ha.ex
  obtain ⟨tb, pb, qb⟩ := hb.ex
  refine ⟨_, pe_op ho pa pb, fun g F ρ σ H Q k r h q => ?_⟩
  unfold x2 at h
  cases h1 : fa ρ with
  | none => rw [h1] at h; cases h
  | some x =>
    cases h2 : fb ρ with
    | none => rw [h1, h2] at h; cases h
    | some y =>
      rw [h1, h2] at h
      cases h
      exact qa g F ρ σ H _ x r h1 (qb g F ρ σ H _ y r h2 ⟨x, y, rfl, rfl, q⟩)
theorem sx_neg (ha : SX X a fa) : SX X (.UnaryOp .USub a pos) (x1 (fun i => -i) fa) := by
  obtain ⟨ta, pa, qa⟩ := ha.ex
  refine ⟨_, pe_un un_neg pa, fun g F ρ σ H Q k r h q => ?_⟩
  unfold x1 at h
  cases h1 : fa ρ with
  | none => rw [h1] at h; cases h
  | some x =>
    rw [h1] at h
    cases h
    exact qa g F ρ σ H _ x r h1 ⟨x, rfl, q⟩
end

/-! ### a place -/
def chn (K : PySem.W.Frag) (H : Hp) : V → List Int → V → Prop
  | v, [], w => v = w
  | v, k :: π, w => ∃ a vs x, v = .ref a ∧ (SqL K H a vs ∨ SqT K H a vs) ∧ atI vs k = some x ∧ chn K H x π w
theorem chn_snoc {K : PySem.W.Frag} {H : Hp} {k : Int} : ∀ {π : List Int} {v w : V}, chn K H v (π ++ [k]) w ↔ ∃ x, chn K H v π x ∧ chn K H x [k] w
  | [], v, w => ⟨fun h => ⟨v, rfl, h⟩, fun ⟨x, h1, h2⟩ => by cases h1; exact h2⟩
  | j :: π, v, w => by
    constructor
    · rintro ⟨a, vs, x, h1, h2, h3, h4⟩
      obtain ⟨y, k1, k2⟩ := chn_snoc.mp h4
      exact ⟨y, ⟨a, vs, x, h1, h2, h3, k1⟩, k2⟩
    · rintro ⟨y, ⟨a, vs, x, h1, h2, h3, k1⟩, k2⟩
      exact ⟨a, vs, x, h1, h2, h3, chn_snoc.mpr ⟨y, k1, k2⟩⟩
structure SP (X : Cx) (i : Nat) (e : Expr) (p : VE → Option (List Int)) : Prop where
  ex : ∃ t, PE X e t ∧ ∀ g F ρ σ H Q π v w, Rel X.K g F ρ σ H → p ρ = some π → σ[i]? = some (some v) → chn X.K H v π w → Q w H → t σ H Q
def pN : VE → Option (List Int) := fun _ => some []
def pS (p : VE → Option (List Int)) (f : VE → Option Int) : VE → Option (List Int) := fun ρ => do
  let π ← p ρ
  let k ← f ρ
  pure (π ++ [k])
section
variable {X : Cx} {W : Wh} {a b e : Expr} {pos : Pos} {p : VE → Option (List Int)} {f : VE → Option Int}
theorem sp_name (i : Nat) {x : Str} (hN : X.N[i]? = some x := by rfl) (hv : Vis X.env.scope x := by first | exact Or.inl rfl | exact Or.inr (Or.inl rfl) | exact Or.inr (Or.inr rfl)) (hd : (x == ("__debug__" : Str)) = false := by decide)
    (hcd : (x == ("__classdict__" : Str)) = false := by decide) : SP X i (.Name x pos) pN :=
  ⟨_, pv i hN hv hd hcd, fun g F ρ σ H Q π v w r h1 h2 h3 q => by cases h1; cases h3; exact ⟨v, h2, q⟩⟩
theorem sp_ix {i : Nat} (ha : SP X i a p) (hb : SX X b f) (hs : PlainIx b) : SP X i (.Subscript a b pos) (pS p f) := by
  obtain ⟨ta, pa, qa⟩ := ha.ex
  obtain ⟨tb, pb, qb⟩ := hb.ex
  refine ⟨_, pe_ix ix_seq pa pb hs, fun g F ρ σ H Q π v w r h1 h2 h3 q => ?_⟩
  unfold pS at h1
  cases k1 : p ρ with
  | none => rw [k1] at h1; cases h1
  | some π0 =>
    cases k2 : f ρ with
    | none => rw [k1, k2] at h1; cases h1
    | some k =>
      rw [k1, k2] at h1
      cases h1
      obtain ⟨x, c1, a', vs, y, rfl, hsq, hat, rfl⟩ := chn_snoc.mp h3
      refine qa g F ρ σ H _ π0 v _ r k1 h2 c1 (qb g F ρ σ H _ k r k2 ?_)
      rcases hsq with hsq | hsq
      · exact .inl ⟨a', vs, k, y, rfl, rfl, hsq, hat, q⟩
      · exact .inr (.inl ⟨a', vs, k, y, rfl, rfl, hsq, hat, q⟩)
end
/-- what stands there -/
def subT : Ot → List Int → Option Ot
  | t, [] => some t
  | .lst ts, k :: π => (atI ts k).bind fun t => subT t π
  | .tup ts, k :: π => (atI ts k).bind fun t => subT t π
  | _, _ :: _ => none
/-- something else is put there -/
def putT : Ot → List Int → Ot → Ot
  | _, [], u => u
  | .lst ts, k :: π, u => match ixN ts.length k with
    | some j => .lst (ts.set j (putT ((ts[j]?).getD (.lst [])) π u))
    | none => .lst ts
  | .tup ts, k :: π, u => match ixN ts.length k with
    | some j => .tup (ts.set j (putT ((ts[j]?).getD (.lst [])) π u))
    | none => .tup ts
  | t, _ :: _, _ => t
section
variable {K : PySem.W.Frag} {F H : Hp}
theorem RepTs.focus : ∀ {ts : List Ot} {vs : List V} {R : List Addr} {j : Nat} {t : Ot}, RepTs K F H ts vs R → R.Nodup → ts[j]? = some t → ∃ v S, vs[j]? = some v ∧ RepT K F H t v S ∧ S.Nodup ∧ (∀ a ∈ S, a ∈ R) ∧
    ∀ F' H' u, Ext F F' → (∀ a ∈ R, a ∉ S → H' a = H a) → RepT K F' H' u v S → RepTs K F' H' (ts.set j u) vs R
  | _, _, _, _, _, .nil, _, h => by simp at h
  | _, _, _, 0, _, .cons (R := R) (S := S) r t, nd, h => by
    simp only [List.getElem?_cons_zero, Option.some.injEq] at h
    subst h
    obtain ⟨n1, n2, n3⟩ := List.nodup_append.mp nd
    refine ⟨_, R, rfl, r, n1, fun a ha => List.mem_append_left _ ha, fun F' H' u e k ru => ?_⟩
    rw [List.set_cons_zero]
    exact .cons ru (t.frame e fun a ha => k a (List.mem_append_right _ ha) fun q => n3 a q a ha rfl)
  | _, _, _, j + 1, _, .cons (R := R) (S := S) r t, nd, h => by
    rw [List.getElem?_cons_succ] at h
    obtain ⟨n1, n2, n3⟩ := List.nodup_append.mp nd
    obtain ⟨v, T, k1, k2, k3, k4, k5⟩ := RepTs.focus t n2 h
    refine ⟨v, T, by rw [List.getElem?_cons_succ]; exact k1, k2, k3, fun a ha => List.mem_append_right _ (k4 a ha), fun F' H' u e k ru => ?_⟩
    rw [List.set_cons_succ]
    exact .cons (r.frame e fun a ha => k a (List.mem_append_left _ ha) fun q => n3 a ha a (k4 a q) rfl) (k5 F' H' u e (fun a ha hn => k a (List.mem_append_right _ ha) hn) ru)
theorem atI_some {α : Type} {l : List α} {k : Int} {x : α} (h : atI l k = some x) : ∃ j, ixN l.length k = some j ∧ l[j]? = some x := by
  unfold atI at h
  cases q : ixN l.length k with
  | none => rw [q] at h; cases h
  | some j => rw [q] at h; exact ⟨j, rfl, h⟩
theorem RepT.focus : ∀ {π : List Int} {t u : Ot} {v : V} {R : List Addr}, RepT K F H t v R → R.Nodup → subT t π = some u → ∃ w S, chn K H v π w ∧ RepT K F H u w S ∧ S.Nodup ∧ (∀ a ∈ S, a ∈ R) ∧
    ∀ F' H' u', Ext F F' → (∀ a ∈ R, a ∉ S → H' a = H a) → RepT K F' H' u' w S → RepT K F' H' (putT t π u') v R
  | [], t, u, v, R, r, nd, h => by
    unfold subT at h
    cases h
    exact ⟨v, R, rfl, r, nd, fun a ha => ha, fun F' H' u' _ _ k => by unfold putT; exact k⟩
  | k :: π, _, u, _, _, .fz h', nd, h => by unfold subT at h; cases h
  | k :: π, _, u, _, _, .dct h1 h2 h3, nd, h => by unfold subT at h; cases h
  | k :: π, _, u, _, _, .lst (a := a) (xs := xs) (vs := vs) (R := R) ha hs, nd, h => by
    unfold subT at h
    cases q : atI xs k with
    | none => rw [q] at h; cases h
    | some t =>
      rw [q] at h
      obtain ⟨j, hj, hjt⟩ := atI_some q
      obtain ⟨n1, n2⟩ := List.nodup_cons.mp nd
      obtain ⟨x, S1, k1, k2, k3, k4, k5⟩ := RepTs.focus hs n2 hjt
      obtain ⟨w, S, c1, c2, c3, c4, c5⟩ := RepT.focus (π := π) k2 k3 h
      refine ⟨w, S, ⟨a, vs, x, rfl, .inl (SqL.of ha), by unfold atI; rw [← hs.length, hj]; exact k1, c1⟩, c2, c3, fun b hb => List.mem_cons_of_mem _ (k4 b (c4 b hb)), fun F' H' u' e k ru => ?_⟩
      unfold putT
      rw [hj]
      refine .lst ((k a List.mem_cons_self fun q => n1 (k4 a (c4 a q))).trans ha) (k5 F' H' _ e (fun b hb hn => k b (List.mem_cons_of_mem _ hb) fun q => hn (c4 b q)) ?_)
      rw [hjt]
      exact c5 F' H' u' e (fun b hb hn => k b (List.mem_cons_of_mem _ (k4 b hb)) hn) ru
  | k :: π, _, u, _, _, .tup (a := a) (xs := xs) (vs := vs) (R := R) ha hs, nd, h => by
    unfold subT at h
    cases q : atI xs k with
    | none => rw [q] at h; cases h
    | some t =>
      rw [q] at h
      obtain ⟨j, hj, hjt⟩ := atI_some q
      obtain ⟨n1, n2⟩ := List.nodup_cons.mp nd
      obtain ⟨x, S1, k1, k2, k3, k4, k5⟩ := RepTs.focus hs n2 hjt
      obtain ⟨w, S, c1, c2, c3, c4, c5⟩ := RepT.focus (π := π) k2 k3 h
      refine ⟨w, S, ⟨a, vs, x, rfl, .inr (SqT.of ha), by unfold atI; rw [← hs.length, hj]; exact k1, c1⟩, c2, c3, fun b hb => List.mem_cons_of_mem _ (k4 b (c4 b hb)), fun F' H' u' e k ru => ?_⟩
      unfold putT
      rw [hj]
      refine .tup ((k a List.mem_cons_self fun q => n1 (k4 a (c4 a q))).trans ha) (k5 F' H' _ e (fun b hb hn => k b (List.mem_cons_of_mem _ hb) fun q => hn (c4 b q)) ?_)
      rw [hjt]
      exact c5 F' H' u' e (fun b hb hn => k b (List.mem_cons_of_mem _ (k4 b hb)) hn) ru
end
mutual
theorem RepT.uniq {K : PySem.W.Frag} {F F' H : Hp} : ∀ {t : Ot} {v : V} {R S : List Addr}, RepT K F H t v R → RepT K F' H t v S → R = S
  | _, _, _, _, .fz _, h => by cases h; rfl
  | _, _, _, _, .lst h hs, k => by
    cases k with
    | lst h' hs' =>
      rw [h] at h'; cases h'
      rw [RepTs.uniq hs hs']
  | _, _, _, _, .tup h hs, k => by
    cases k with
    | tup h' hs' =>
      rw [h] at h'; cases h'
      rw [RepTs.uniq hs hs']
  | _, _, _, _, .dct (a := a) (ks := ks) (xs := xs) (vs := vs) h l hs, k => by
    generalize ht : Ot.dct (ks.zip xs) = t at k
    cases k with
    | fz _ => cases ht
    | lst _ _ => cases ht
    | tup _ _ => cases ht
    | @dct _ ks' xs' vs' S h' l' hs' =>
      rw [h] at h'
      have e1 : ks.zip xs = ks'.zip xs' := Ot.dct.inj ht
      have e2 : ks.zip vs = ks'.zip vs' := HO.dK.inj (Option.some.inj h')
      have lv := hs.length
      have lv' := hs'.length
      have x1 : xs = xs' := by
        have := congrArg (List.map Prod.snd) e1
        rw [List.map_snd_zip (by omega), List.map_snd_zip (by omega)] at this
        exact this
      have x2 : vs = vs' := by
        have := congrArg (List.map Prod.snd) e2
        rw [List.map_snd_zip (by omega), List.map_snd_zip (by omega)] at this
        exact this
      subst x1 x2
      rw [RepTs.uniq hs hs']
theorem RepTs.uniq {K : PySem.W.Frag} {F F' H : Hp} : ∀ {ts : List Ot} {vs : List V} {R S : List Addr}, RepTs K F H ts vs R → RepTs K F' H ts vs S → R = S
  | _, _, _, _, .nil, h => by cases h; rfl
  | _, _, _, _, .cons r t, h => by
    cases h with
    | cons r' t' => rw [RepT.uniq r r', RepTs.uniq t t']
end
/-- a slot's tree is changed within its cells -/
theorem Rel.writeOt {K : PySem.W.Frag} {g : Gx} {F H : Hp} {ρ : VE} {σ : L2.St} {i : Nat} {t t' : Ot} {v : V} {a : Addr} {o : HO} (r : Rel K g F ρ σ H) (hi : ρ[i]? = some (Sl.ot t)) (hs : σ[i]? = some (some v))
    (h : ∀ R, RepT K F H t v R → R.Nodup → a ∈ R ∧ RepT K F (upd H a o) t' v R) : Rel K g F (ρ.set i (Sl.ot t')) σ (upd H a o) := by
  obtain ⟨Rs, w⟩ := r.own
  obtain ⟨x, R, h1, h2, v', rfl, h4, h5⟩ := w.at' hi
  rw [hs] at h1; cases h1
  obtain ⟨ha, ht⟩ := h R h4 (w.nd i R h2)
  have hout := w.out i R h2
  have hd : ∀ (j : Nat) (S : List Addr), (Rs.set i [])[j]? = some S → ∀ b ∈ S, b ∉ R := fun j S hS b hb q => by
    rcases get_set hS with ⟨_, y⟩ | ⟨y, hS'⟩
    · subst y; cases hb
    · exact w.dis i j R S y h2 hS' b q hb
  have w1 := (w.drop i).frame (H' := upd H a o) (Ext.refl F) (fun j S hS b hb => upd_ne fun z => hd j S hS b hb (by rw [z]; exact ha)) (fun j S hS b hb => ((w.drop i).out j S hS b hb).1) fun c u e => by
    obtain ⟨a1, a2⟩ := w.hel c u e
    exact ⟨by rw [upd_ne (fun z => by rw [z, (hout a ha).2.1] at e; cases e)]; exact a1, a2⟩
  have w2 := w1.set i (s' := .ot t') (x' := some v) (R' := R) ⟨v, rfl, ht, h5⟩ (w.nd i R h2) (fun j S z hS b hb hb' => hd j S hS b hb' hb) hout
  rw [List.set_set, List.set_set, set_self hs] at w2
  have hF := (hout a ha).1
  have h0 := h5 a ha
  exact { ext := fun c u e => by rw [upd_ne (ne_of_none e hF)]; exact r.ext c u e, f0 := r.f0, new := r.new, keep := fun c u e n => by rw [upd_ne (ne_of_none e h0)]; exact r.keep c u e n, dom := fun b e => (by
    by_cases z : b = a
    · rw [z, upd_same]; exact Option.some_ne_none _
    · rw [upd_ne z]; exact r.dom b e), io := fun j c hc => (by
    obtain ⟨k1, e, k2⟩ := r.io j c hc
    have z : i ≠ j := fun z => by subst z; rw [hi] at k2; cases k2
    exact ⟨k1, e, by rw [List.getElem?_set_ne z]; exact k2⟩), own := ⟨_, w2⟩ }
def getO (i : Nat) : M Ot := fun ρ => match (ρ[i]? : Option Sl) with
  | some (.ot t) => .ok t ρ
  | some (.mu false d) => match otOf d with
    | some t => .ok t (ρ.set i (.ot t))
    | none => .bad
  | _ => .bad
theorem Rel.muOt {K : PySem.W.Frag} {g : Gx} {F H : Hp} {ρ : VE} {σ : L2.St} {i : Nat} {d : Dv} {t : Ot} (r : Rel K g F ρ σ H) (hi : ρ[i]? = some (Sl.mu false d)) (ht : otOf d = some t) : Rel K g F (ρ.set i (Sl.ot t)) σ H := by
  obtain ⟨p, o, h1, h2, h3, h4, r1⟩ := r.takeMu hi
  have hp := r1.heldAt.1
  rw [one_cells hp] at r1
  have r2 := r1.setOt (i := i) (fun e q => by rw [List.getElem?_set_self (lt_of_get hi)] at q; cases q) (otOf_ok h2 hp ht) (nodup1 p) (fun a m => by rw [List.mem_singleton.mp m]; exact ⟨h3, h4⟩)
  rw [List.set_set, set_self h1] at r2
  exact r2
theorem getO_ok {K : PySem.W.Frag} {g : Gx} {F H : Hp} {ρ : VE} {σ : L2.St} {i : Nat} {ok : Ot → VE → Prop} {ex : Er → VE → Prop} (r : Rel K g F ρ σ H) (z : RP (getO i ρ) ok ex) : ∃ t v ρ', ρ'[i]? = some (Sl.ot t) ∧ σ[i]? = some (some v) ∧ Rel K g F ρ' σ H ∧ (∀ R, RepT K F H t v R → R.Nodup → True) ∧ (∃ R, RepT K F H t v R ∧ R.Nodup) ∧ ok t ρ' := by
  unfold getO at z
  split at z
  · rename_i t e
    obtain ⟨v, R, h1, h2, h3, _⟩ := r.takeOt e
    exact ⟨t, v, ρ, e, h1, r, fun _ _ _ => True.intro, ⟨R, h2, h3⟩, z⟩
  · rename_i d e
    split at z
    · rename_i t ht
      have r1 := r.muOt e ht
      have e1 : (ρ.set i (Sl.ot t))[i]? = some (Sl.ot t) := List.getElem?_set_self (lt_of_get e)
      obtain ⟨v, R, h1, h2, h3, _⟩ := r1.takeOt e1
      exact ⟨t, v, _, e1, h1, r1, fun _ _ _ => True.intro, ⟨R, h2, h3⟩, z⟩
    · exact z.elim
  · exact z.elim
def lstT? : Ot → Option (List Ot)
  | .lst ts => some ts
  | _ => none
def WHold (W : Wh) : Prop := ∀ (g : Gx) (G : Hp), W.p g → W.p (g.hold G)
theorem wh_of {w : WX} : WHold ⟨w, fun _ => True⟩ := fun _ _ _ => True.intro
theorem wh_suite {X : Cx} {a : Addr} {er : Er} {cls : Value} {d : Option Addr} : WHold (WS X a er cls d) := fun _ _ h => h
def M.ask {α : Type} (p : VE → Option α) : M α := fun ρ => match p ρ with
  | some a => .ok a ρ
  | none => .bad
def setR (i : Nat) (s : Sl) : M Unit := fun ρ => .ok () (ρ.set i s)
def isMuIo (i : Nat) : M Unit := fun ρ => if isIo (ρ[i]? : Option Sl) = true then .bad else .ok () ρ
theorem RepTs.append {K : PySem.W.Frag} {F H : Hp} : ∀ {xs ys : List Ot} {vs us : List V} {R S : List Addr}, RepTs K F H xs vs R → RepTs K F H ys us S → RepTs K F H (xs ++ ys) (vs ++ us) (R ++ S)
  | _, _, _, _, _, _, .nil, h => h
  | _, _, _, _, _, _, .cons r t, h => by
    rw [List.append_assoc]
    exact .cons r (t.append h)
theorem lstT?_eq {t : Ot} {ts : List Ot} (h : lstT? t = some ts) : t = .lst ts := by
  cases t with
  | lst xs => cases h; rfl
  | _ => cases h
section
variable {X : Cx} {W : Wh} {a b e : Expr} {pos : Pos} {p : VE → Option (List Int)}
/-- x[..].append(e), e not about x -/
def mAppP (i : Nat) (p : VE → Option (List Int)) (m : M AV) : M RV := do
  let t ← getO i
  let π ← M.ask p
  let xs ← M.opt ((subT t π).bind lstT?)
  setR i .no
  let av ← m
  let d ← ali av
  isMuIo i
  M.grd (xs.length < sizeLine)
  setR i (.ot (putT t π (.lst (xs ++ [.fz d]))))
  pure (.d .non)
theorem se_appendP (i : Nat) {call : Expr} {m : M AV} (hp : SP X i b p) (h : SF X W e m) (hW : WHold W) (pb : ∀ tb t, PE X b tb → PE X e t → PE X call (tBM X.K "list" rAppend tb (tCons t tNil))) : SE X W call (mAppP i p m) := by
  obtain ⟨tb, ptb, qtb⟩ := hp.ex
  obtain ⟨t, pt, qt⟩ := h.ex
  refine ⟨_, pb tb t ptb pt, fun g hw F ρ σ H Q rel z => ?_⟩
  unfold mAppP at z
  rw [RP_bnd] at z
  obtain ⟨T, v, ρ1, m1, m2, r1, _, _, z⟩ := getO_ok rel z
  rw [RP_bnd] at z
  unfold M.ask at z
  cases hπ : p ρ1 with
  | none => simp only [hπ] at z; exact z.elim
  | some π =>
    simp only [hπ] at z
    have z : RP ((M.opt ((subT T π).bind lstT?) >>= fun xs => setR i .no >>= fun _ => m >>= fun av => ali av >>= fun d => isMuIo i >>= fun _ => M.grd (xs.length < sizeLine) >>= fun _ => setR i (.ot (putT T π (.lst (xs ++ [.fz d])))) >>= fun _ => (pure (.d .non) : M RV)) ρ1) (okE X g F σ Q) (exE X g F W) := z
    rw [RP_bnd] at z
    obtain ⟨xs, hxs, z⟩ := RP_opt z
    obtain ⟨u, hu, hxs⟩ := Option.bind_eq_some_iff.mp hxs
    obtain rfl := lstT?_eq hxs
    rw [RP_bnd] at z
    have z : RP ((m >>= fun av => ali av >>= fun d => isMuIo i >>= fun _ => M.grd (xs.length < sizeLine) >>= fun _ => setR i (.ot (putT T π (.lst (xs ++ [.fz d])))) >>= fun _ => (pure (.d .non) : M RV)) (ρ1.set i .no)) (okE X g F σ Q) (exE X g F W) := z
    obtain ⟨v', R, n1, n2, n3, n4, rT⟩ := r1.takeOt m1
    rw [m2] at n1; cases n1
    obtain ⟨w, S, c1, c2, c3, c4, c5⟩ := RepT.focus n2 n3 hu
    refine qtb g F ρ1 σ H _ π v w r1 hπ m2 c1 ?_
    cases c2 with
    | @lst a _ vs R' ha hs =>
      refine ⟨.inl ⟨rfl, vs, SqL.of ha⟩, ?_⟩
      rw [RP_bnd] at z
      have hh : ∀ b u, cells R H b = some u → g.held b = none := fun b u e => (n4 b (cells_mem e)).2
      refine qt (g.hold (cells R H)) (hW g _ hw) F (ρ1.set i .no) σ H _ rT (z.imp (fun av ρ2 z1 => ?_) fun er ρ2 k => ?_)
      · intro y F1 H1 e1 rel1 ok1
        rw [RP_bnd] at z1
        obtain ⟨d, F2, ρ3, e2, r2, h2, z2⟩ := ali_ok rel1 ok1 z1
        rw [RP_bnd] at z2
        unfold isMuIo at z2
        split at z2
        · exact z2.elim
        · rename_i hio
          have z2 : RP ((M.grd (xs.length < sizeLine) >>= fun _ => setR i (.ot (putT T π (.lst (xs ++ [.fz d])))) >>= fun _ => (pure (.d .non) : M RV)) ρ3) (okE X g F σ Q) (exE X g F W) := z2
          rw [RP_bnd] at z2
          obtain ⟨hl, z3⟩ := RP_grd z2
          have z4 : okE X g F σ Q (.d .non) (ρ3.set i (.ot (putT T π (.lst (xs ++ [.fz d]))))) := z3
          have agree : ∀ b ∈ R, H1 b = H b := fun b hb => by
            obtain ⟨u, q⟩ := Option.ne_none_iff_exists'.mp (n2.there b hb)
            obtain ⟨Rs, w⟩ := r2.own
            rw [q]; exact (w.hel b u (plus_some (cells_at hb q))).1
          have sameC : cells R H = cells R H1 := by
            funext b
            by_cases hb : b ∈ R
            · rw [cells_in hb, cells_in hb, agree b hb]
            · rw [cells_out hb, cells_out hb]
          have n2' : RepT X.K F2 H1 T v R := n2.frame (e1.trans e2) agree
          rw [sameC] at r2
          have r3 := r2.setOt (i := i) (fun d q => hio (by rw [q]; rfl)) n2' n3 n4
          rw [set_self m2] at r3
          have hi3 : i < ρ3.length := by rw [r2.len]; exact lt_of_get m2
          have haR : a ∈ R := c4 a List.mem_cons_self
          have r4 := r3.writeOt (i := i) (t := T) (t' := putT T π (.lst (xs ++ [.fz d]))) (a := a) (o := .lst (vs ++ [y])) (List.getElem?_set_self hi3) m2 fun R2 hR2 _ => ?_
          · rw [List.set_set] at r4
            exact ⟨a, vs, y, rfl, rfl, (agree a haR).trans ha, by rw [← hs.length]; exact hl, z4 .non F2 _ (e1.trans e2) r4 .non⟩
          · obtain rfl : R2 = R := RepT.uniq hR2 n2'
            refine ⟨haR, c5 F2 _ _ (e1.trans e2) (fun b hb hn => ?_) ?_⟩
            · rw [upd_ne (fun q => hn (by rw [q]; exact List.mem_cons_self))]; exact agree b hb
            · have nd' := (List.nodup_cons.mp c3).1
              have hs' : RepTs X.K F2 (upd H1 a (.lst (vs ++ [y]))) xs vs R' := hs.frame (e1.trans e2) fun b hb => by
                rw [upd_ne (fun q => nd' (by rw [← q]; exact hb))]
                exact agree b (c4 b (List.mem_cons_of_mem _ hb))
              have := hs'.append (.cons (.fz h2) .nil)
              rw [List.append_nil, List.append_nil] at this
              exact .lst upd_same this
      · intro cls dd σ' F' H' e1 rx ek
        exact k cls dd σ' F' H' e1 (rx.unhold hh) ek
end
end P0
end
section
set_option Elab.async false
set_option linter.all false
set_option maxRecDepth 100000
set_option maxHeartbeats 4000000
/-! P0: a call by keywords; the end of a law. -/
namespace P0
open PySem PySem.Spec L2
open PyProof.Rows hiding St

/-! ### -i -/
def pNeg : Dv → M RV
  | .int i => pure (.d (.int (-i)))
  | _ => M.bad
theorem p_neg {X : Cx} : ∀ (g : Gx) (F : Hp) (ρ : VE) (σ : L2.St) (H : Hp) (x : V) (dx : Dv) (Q : VK) (W : Wh), Rel X.K g F ρ σ H → Top X.K F H dx x → RP (pNeg dx ρ) (okE X g F σ Q) (exE X g F W) → rU (fun i => V.int (-i)) x H Q := by
  intro g F ρ σ H x dx Q W rel tx z
  unfold pNeg at z
  split at z
  · exact ⟨_, tx.int, z _ F H (Ext.refl F) rel (.int _)⟩
  · exact z.elim
section
variable {X : Cx} {W : Wh} {e : Expr} {es : List Expr} {pos p : Pos} {x : Str} {kws : List Keyword}
structure SK (X : Cx) (W : Wh) (kws : List Keyword) (m : M (List AV)) : Prop where
  ex : ∃ t, PK X kws t ∧ ∀ g, W.p g → ∀ F ρ σ H Q, Rel X.K g F ρ σ H → RP (m ρ) (okA X g F σ Q) (exE X g F W) → t σ H Q
theorem sk_nil : SK X W [] aN := ⟨tNil, pk_nil, fun g hw F ρ σ H Q rel z => z [] F H (Ext.refl F) rel .nil⟩
theorem sk_cons {m : M AV} {r : M (List AV)} {nm : Option Str} {kpos : Pos} (h : SF X W e m) (hr : SK X W kws r) : SK X W (⟨nm, e, kpos⟩ :: kws) (aC m r) := by
  obtain ⟨t, pt, qt⟩ := h.ex
  obtain ⟨u, pu, qu⟩ := hr.ex
  refine ⟨tCons t u, pk_cons pt pu, fun g hw F ρ σ H Q rel z => ?_⟩
  unfold aC at z
  rw [RP_bnd] at z
  refine qt g hw F ρ σ H _ rel (z.imp (fun a ρ1 z1 => ?_) fun _ _ k => k)
  intro v F1 H1 e1 rel1 ok1
  rw [RP_bnd] at z1
  refine qu g hw F1 ρ1 σ H1 _ rel1 (z1.imp (fun as ρ2 z2 => ?_) fun _ _ k => k.ext e1)
  intro vs F2 H2 e2 rel2 ok2
  exact z2 (v :: vs) F2 H2 (e1.trans e2) rel2 (.cons (ok1.mono e2) ok2)
/-- f(a = .., b = ..), all parameters in their order -/
def KwB (K : PySem.W.Frag) (fd : FuncData) (ps : List Str) : Prop := ∀ (s : Shared) (ws : List Value), K.In s.heap → ws.length = ps.length → BindsTo s fd ⟨[], ps.zip ws⟩ (ps.zip ws)
theorem run_fnG' {X : Cx} {k : Nat} {f : Addr} {fd : FuncData} {ps : List Str} {sp : Sp} {E : L2.St → XK} {pins : List (Addr × Obj)} {σ : L2.St} {H : Hp} {s : Shared} {Q : VK} {us : List Value} {vs : List V} {args : Args} (Fk : FnG X.prog X.w X.K X.mg X.base k f fd ps sp) (hgd : X.A.guards = some []) (hr : Room k X.A) (hb : BindsTo s fd args (ps.zip us))
    (hx : PassesAt (L2.CX X.prog X.w) X σ (E σ)) (I : Inv X pins σ H s) (r : Vals vs us) (h : sp vs H Q (E σ)) : codeAny (model X.prog X.w) X.A (.call (.ref f) args) (fun res s' => match res with
      | .ok (.ret u) => EP X pins σ Q u s'
      | .ok _ => False
      | .error e => X.xe e s') s := by
  refine codeAny_mono (Fk.run X.A X.stack s H args us vs Q (E σ) hgd hr I.env0 hb r h) fun res s' hq => ?_
  rcases res with e | fl
  · exact hx pins H s e s' I hq
  · cases fl
    case ret u => exact I.after hq
    all_goals exact hq.elim
theorem se_callKw {k n : Nat} {fa : Addr} {fd : FuncData} {ps : List Str} {φ : List Sl → R RV} {ma : M (List AV)} (G : FnG X.prog X.w X.K X.mg X.base k fa fd ps (spF X.K X.mg φ n)) (hgd : X.A.guards = some []) (hr : Room k X.A) (tk : Takes X W.w) (hm : X.mg x = some (.ref fa))
    (hk : PySem.W.keepIn X.K (.ref fa) = true) (hb : KwB X.K fd ps) (hg : Gl X x) (ha : SK X W kws ma) (hdb : (x == ("__debug__" : Str)) = false := by decide)
    (hall : (backToKw pos (keywordEach kws X.env)).all (·.1.isSome) = true := by rfl) (hks : (backToKw pos (keywordEach kws X.env)).filterMap (·.1) = ps := by rfl)
    (hpl : ((backTo pos (starEach [] X.env)).any (·.1) || (backToKw pos (keywordEach kws X.env)).any (·.1.isNone)) = false := by rfl) : SE X W (.Call (.Name x p) [] kws pos) (eCall n φ ma) := by
  obtain ⟨t, pt, qt⟩ := ha.ex
  refine ⟨fun σ H Q => t σ H fun vs H1 => spF X.K X.mg φ n vs H1 Q (WE W.w σ), ⟨fun pins s σ H Q I h => ?_⟩, fun g hw F ρ σ H Q rel z => ?_⟩
  · refine wpAny_Call_Name_kw (ld_glob I hg hm ?_ hdb)
    refine PySem.W.callWith_KW0 (h₀ := X.base) I.ok.mod.kin hk hall ?_ hpl
    refine thn (pt.run pos pins s σ H _ I h) fun ws s2 ⟨zs, H2, I2, rz, q2⟩ => ⟨I2.kIn, ?_⟩
    rw [hks, List.append_nil]
    have hl : ws.length = ps.length := by rw [← rz.length]; exact G.len _ _ _ _ q2
    refine wpAny_call (codeAny_mono (run_fnG' (E := fun σ => WE W.w σ) G hgd hr (hb s2 ws I2.kIn hl) (passAt tk σ) I2 rz q2) fun res s' hq => ?_)
    rcases res with e | fl
    · exact hq
    · cases fl
      case ret u => exact hq
      all_goals exact hq.elim
  · unfold eCall at z
    rw [RP_bnd] at z
    refine qt g hw F ρ σ H _ rel (z.imp (fun as ρ1 z1 => ?_) fun _ _ k => k)
    intro vs F1 H1 e1 rel1 ok1
    rw [RP_bnd] at z1
    obtain ⟨ds, F2, ρ2, e2, r2, h2, z2⟩ := aliL_ok rel1 ok1 z1
    rw [RP_bnd] at z2
    obtain ⟨hn, z2⟩ := RP_grd z2
    refine ⟨F2, ds, hn, r2.ext, h2, ?_⟩
    unfold kCall at z2
    cases hφ : φ (ds.map Sl.val) with
    | bad => rw [hφ] at z2; exact z2
    | exc er ρ' =>
      rw [hφ] at z2
      intro cls d F' H' c ek
      exact z2 cls d σ F' H' ((e1.trans e2).trans c.e1) (r2.called c) ek
    | ok rv ρ' =>
      rw [hφ] at z2
      intro v F' H' c rk
      exact z2 v F' H' ((e1.trans e2).trans c.e1) (r2.called c) (RvC.ok r2 (r2.called c) (r2.calledO c) rk)
/-- f() -/
theorem se_call0 {k : Nat} {fa : Addr} {fd : FuncData} {φ : List Sl → R RV} (G : FnG X.prog X.w X.K X.mg X.base k fa fd [] (spF X.K X.mg φ 0)) (hgd : X.A.guards = some []) (hr : Room k X.A) (tk : Takes X W.w) (hm : X.mg x = some (.ref fa))
    (hk : PySem.W.keepIn X.K (.ref fa) = true) (hb : Binds X.K fd [] []) (hg : Gl X x) (hdb : (x == ("__debug__" : Str)) = false := by decide) : SE X W (.Call (.Name x p) [] [] pos) (eCall 0 φ aN) := by
  refine ⟨fun σ H Q => spF X.K X.mg φ 0 [] H Q (WE W.w σ), ⟨fun pins s σ H Q I h => ?_⟩, fun g hw F ρ σ H Q rel z => ?_⟩
  · refine wpAny_Call_Name_kw (ld_glob I hg hm ?_ hdb)
    refine PySem.W.callWith_K0 I.kIn hk ?_
    exact run_fnG (E := fun σ => WE W.w σ) G hgd hr hb (passAt tk σ) I .nil h
  · unfold eCall aN at z
    rw [RP_bnd] at z
    have z1 : RP ((aliL [] >>= fun ds => M.grd (ds.length = 0) >>= fun _ => kCall (φ (ds.map Sl.val))) ρ) (okE X g F σ Q) (exE X g F W) := z
    have z2 : RP (kCall (φ []) ρ) (okE X g F σ Q) (exE X g F W) := z1
    refine ⟨F, [], rfl, rel.ext, .nil, ?_⟩
    unfold kCall at z2
    cases hφ : φ [] with
    | bad => rw [hφ] at z2; exact z2.elim
    | exc er ρ' =>
      rw [hφ] at z2
      show RP (φ []) _ _
      rw [hφ]
      intro cls d F' H' c ek
      exact z2 cls d σ F' H' c.e1 (rel.called c) ek
    | ok rv ρ' =>
      rw [hφ] at z2
      show RP (φ []) _ _
      rw [hφ]
      intro v F' H' c rk
      exact z2 v F' H' c.e1 (rel.called c) (RvC.ok rel (rel.called c) (rel.calledO c) rk)
end

/-! ### the end -/
theorem law_callG {P : Program} {w : World} {K : PySem.W.Frag} {mg mb : Str → Option Value} {k : Nat} {fa a : Addr} {fd : FuncData} {x : Str} {φ : List Sl → R RV} {s1 : Shared} {us : List Value} {ns : List Int}
    (hK : K.In s1.heap) (h1 : s1.heap.Ns mainGlobals mg) (h2 : s1.heap.Ns builtinsNs mb) (h3 : ∀ y : Str, y ≠ "__name__" → mb y = bootBuiltins y) (h4 : s1.heap.NoLimit) (h5 : s1.gens = #[])
    (h6 : s1.heap.get? a = some { cls := .type "list", data := .seq us.toArray }) (h7 : IntsAre us ns) (h8 : ns.length ≤ sizeLine) (room : Room k callerA)
    (G : ∀ base : Heap, K.In base → base.Ns mainGlobals mg → FnG P w K mg base k fa fd [x] (spF K mg φ 1)) (hbind : ∀ (s : Shared) (u : Value), BindsTo s fd ⟨[u], []⟩ [(x, u)])
    (hφ : ∃ ρ, φ [Sl.val (.rls (ns.map Dv.int))] = .ok (.d (.bl true)) ρ) :
    codeAny (model P w) callerA (.call (.ref fa) ⟨[.ref a], []⟩) (fun r s' => r = .ok (.ret (.bool true)) ∧ OldK s1.heap s'.heap ∧ s'.os = s1.os ∧ AllBare s'.gens) s1 := by
  have rv := vals_ints h7
  have hlen := h7.length
  suffices main : ∀ H : Hp, (∀ b u, H b = some u → b = a ∧ u = .frz { cls := .type "list", data := .seq us.toArray } (.lst (ns.map V.int))) → SqL K H a (ns.map V.int) → HOk P w H s1.heap → (H a ≠ none → K.lookup a = none) →
      codeAny (model P w) callerA (.call (.ref fa) ⟨[.ref a], []⟩) (fun r s' => r = .ok (.ret (.bool true)) ∧ OldK s1.heap s'.heap ∧ s'.os = s1.os ∧ AllBare s'.gens) s1 by
    cases hk : K.lookup a with
    | some o =>
      have q := hK a o hk
      rw [h6] at q; cases q
      exact main (fun _ => none) (fun _ _ q => by cases q) (.inr ⟨_, us.toArray, _, hk, rfl, rfl, rfl, by rw [List.size_toArray, hlen]; exact h8, by simpa using rv⟩) (fun b u q => by cases q) fun q => absurd rfl q
    | none =>
      refine main (one a (.frz { cls := .type "list", data := .seq us.toArray } (.lst (ns.map V.int)))) (fun b u q => ?_) (.inl (.inr ⟨_, one_same⟩)) (fun b u q => ?_) fun _ => hk
      · by_cases z : b = a
        · subst z; rw [one_same] at q; exact ⟨rfl, (Option.some.inj q).symm⟩
        · rw [one_ne z] at q; cases q
      · by_cases z : b = a
        · subst z
          rw [one_same] at q; cases q
          exact ⟨h6, by rw [List.length_map]; exact h8, us, _, rv, h6⟩
        · rw [one_ne z] at q; cases q
  intro H only hS hok hka
  have isA : ∀ {b : Addr}, H b ≠ none → b = a := fun {b} n => by
    obtain ⟨u, q⟩ := Option.ne_none_iff_exists'.mp n
    exact (only b u q).1
  have off : ∀ {b : Addr} {o : Obj} {es : Array DictEntry} {ep : Nat}, s1.heap.get? b = some o → o.data = .dict es ep → H b = none := fun {b o es ep} q d => by
    cases z : H b with
    | none => rfl
    | some u =>
      have := isA (b := b) (by rw [z]; exact Option.some_ne_none u)
      subst this
      rw [h6] at q; cases q
      cases (show Data.seq us.toArray _ = Data.dict es ep from d)
  have nsT : ∀ {b : Addr} {m : Str → Option Value}, s1.heap.Ns b m → (hidT s1.heap H).Ns b m := fun {b m} ⟨o, es, ep, q, d, r⟩ => ⟨o, es, ep, hidT_get q (off q d), d, r⟩
  have kT : K.In (hidT s1.heap H) := fun b o q => hidT_get (hK b o q) (by
    cases z : H b with
    | none => rfl
    | some u =>
      have := isA (b := b) (by rw [z]; exact Option.some_ne_none u)
      subst this
      rw [hka (by rw [z]; exact Option.some_ne_none u)] at q; cases q)
  have modT : Mod K mg (hidT s1.heap H) := ⟨kT, nsT h1, ⟨mb, nsT h2, h3⟩, let ⟨mc, q1, q2⟩ := h4; ⟨mc, nsT q1, q2⟩⟩
  have e0 : Env0 P w K mg (hidT s1.heap H) callerA [] s1 H := ⟨rfl, modT, fun b o q => of_hidT q, Nat.le_of_eq (hidT_size _ _), trivial, fun b hb => absurd hb List.not_mem_nil, hok, .of_eq h5⟩
  obtain ⟨ρ0, hφ⟩ := hφ
  have sp : spF K mg φ 1 [.ref a] H (fun v _ => v = .bl true) fun _ _ _ => False := by
    refine ⟨H, [.rls (ns.map Dv.int)], rfl, Ext.refl H, .cons (.rls hS (Reps.ints ns)) .nil, ?_⟩
    show RP (φ [Sl.val (.rls (ns.map Dv.int))]) _ _
    rw [hφ]
    intro v F' H' _ hv
    cases hv
    rfl
  refine codeAny_mono ((G _ kT (nsT h1)).run callerA [] s1 H ⟨[.ref a], []⟩ [.ref a] [.ref a] _ _ rfl room e0 (hbind s1 (.ref a)) (.cons rfl .nil) sp) fun r s' q => ?_
  rcases r with e | fl
  · obtain ⟨_, _, _, _, _, _, _, _, _, _, _, _, z⟩ := q
    exact z.elim
  · cases fl
    case ret u =>
      obtain ⟨v, H', os, bare, un, hok', r', qv⟩ := q
      obtain rfl := (show v = .bl true from qv)
      obtain rfl : u = Value.bool true := r'
      refine ⟨rfl, OldK.of_keep fun b o q => ?_, os, bare⟩
      cases z : H b with
      | none => exact un.keep b o q z (by intro y; exact absurd y List.not_mem_nil) List.not_mem_nil
      | some u =>
        obtain ⟨_, rfl⟩ := only b u z
        obtain ⟨e1, _⟩ := hok b _ z
        obtain ⟨e2, _⟩ := hok' b _ (un.frzs b _ _ z)
        rw [q] at e1; cases e1
        exact e2
    all_goals exact q.elim
theorem walk_P0 {l : PySem.W.OpenLaw} {n k : Nat} {q : Program} {loose : List Str} {XP : (Str → Option Value) → Heap → Prop} {YP : World → Heap → Prop} {d : DefRec} {K : Params → PySem.W.Frag} {x : Str} {φ : List Sl → R RV}
    (hn : l.most = some n) (hn2 : n ≤ sizeLine) (hdf : d.params.defaults = []) (hr : Room k callerA) (hY : ∀ (w : World) (h : Heap), YP w h → (K w.params).In h)
    (F : ∀ (w : World) (mg : Str → Option Value) (fa : Addr) (h : Heap), (K w.params).In h → h.Ns mainGlobals mg → mg d.name = some (.ref fa) →
      ∃ fd : FuncData, (∀ (s : Shared) (u : Value), BindsTo s fd ⟨[u], []⟩ [(x, u)]) ∧ ∀ base : Heap, (K w.params).In base → base.Ns mainGlobals mg → FnG l.prog w (K w.params) mg base k fa fd [x] (spF (K w.params) mg φ 1))
    (math : ∀ ns : List Int, ns.length ≤ n → (∀ z ∈ ns, Builtin.Int.intBits z ≤ 1048576) → ∃ ρ, φ [Sl.val (.rls (ns.map Dv.int))] = .ok (.d (.bl true)) ρ) :
    PySem.W.WalkO q loose XP YP l.row.toRowW d [] (fun f vs => PySem.call f vs) := by
  refine Att.attach_callB hn hdf fun w s0 s1 mg mb fa o pm cd doc a vs ns Gr Y ho hd hcd hmg hobj hints hlen hbits hg => ?_
  have KX := hY w _ Y
  obtain ⟨fd, hb, hF⟩ := F w mg fa _ KX Gr.T.g hmg
  exact law_callG KX Gr.T.g Gr.T.b Gr.T.builtins Gr.T.nolimit hg hobj hints (Nat.le_trans hlen hn2) hr hF hb (math ns hlen hbits)
end P0
end
section
set_option Elab.async false
set_option linter.all false
set_option maxRecDepth 100000
set_option maxHeartbeats 4000000
/-! P0, reckoning: what the bodies do, by simp. -/
namespace P0
open PySem PySem.Spec L2
open PyProof.Rows hiding St

def iz (l : List Int) : List Dv := l.map Dv.int
def bz (l : List Bool) : List Dv := l.map Dv.bl
@[simp] theorem iz_nil : iz [] = [] := rfl
@[simp] theorem iz_cons (a : Int) (l : List Int) : iz (a :: l) = .int a :: iz l := rfl
@[simp] theorem iz_length (l : List Int) : (iz l).length = l.length := by simp [iz]
@[simp] theorem bz_nil : bz [] = [] := rfl
@[simp] theorem bz_cons (a : Bool) (l : List Bool) : bz (a :: l) = .bl a :: bz l := rfl
@[simp] theorem bz_length (l : List Bool) : (bz l).length = l.length := by simp [bz]
@[simp] theorem iz_append (a b : List Int) : iz (a ++ b) = iz a ++ iz b := by simp [iz]
@[simp] theorem bz_append (a b : List Bool) : bz (a ++ b) = bz a ++ bz b := by simp [bz]
theorem iz_get (l : List Int) (i : Nat) : (iz l)[i]? = l[i]?.map Dv.int := by simp [iz]
theorem bz_get (l : List Bool) (i : Nat) : (bz l)[i]? = l[i]?.map Dv.bl := by simp [bz]
@[simp] theorem ints_iz (l : List Int) : ints? (iz l) = some l := ints?_map l
@[simp] theorem iz_isEmpty (l : List Int) : (iz l).isEmpty = l.isEmpty := by cases l <;> rfl
@[simp] theorem bz_isEmpty (l : List Bool) : (bz l).isEmpty = l.isEmpty := by cases l <;> rfl
theorem run_setS {ρ : VE} {i : Nat} {d : Dv} (h : i < ρ.length) (hn : isIo (ρ[i]? : Option Sl) = false) : setS i d ρ = .ok () (ρ.set i (.val d)) := by
  unfold setS
  obtain ⟨s, e⟩ := get_ex h
  rw [e] at hn ⊢
  cases s with
  | mu b d => cases b with
    | true => cases hn
    | false => rfl
  | _ => rfl
theorem run_setF {ρ : VE} {i : Nat} {d : Dv} (h : i < ρ.length) (hn : isIo (ρ[i]? : Option Sl) = false) : setF i d ρ = .ok () (ρ.set i (.mu false d)) := by
  unfold setF
  obtain ⟨s, e⟩ := get_ex h
  rw [e] at hn ⊢
  cases s with
  | mu b d => cases b with
    | true => cases hn
    | false => rfl
  | _ => rfl
theorem run_setO {ρ : VE} {i : Nat} {t : Ot} (h : i < ρ.length) (hn : isIo (ρ[i]? : Option Sl) = false) : setO i t ρ = .ok () (ρ.set i (.ot t)) := by
  unfold setO
  obtain ⟨s, e⟩ := get_ex h
  rw [e] at hn ⊢
  cases s with
  | mu b d => cases b with
    | true => cases hn
    | false => rfl
  | _ => rfl
@[simp] theorem isIo_no : isIo (some Sl.no) = false := rfl
@[simp] theorem isIo_val (d : Dv) : isIo (some (Sl.val d)) = false := rfl
@[simp] theorem isIo_own (d : Dv) : isIo (some (Sl.mu false d)) = false := rfl
@[simp] theorem isIo_io (d : Dv) : isIo (some (Sl.mu true d)) = true := rfl
@[simp] theorem isIo_ot (t : Ot) : isIo (some (Sl.ot t)) = false := rfl
@[simp] theorem isIo_exn : isIo (some Sl.exn) = false := rfl
/-- a list, a tuple, a list that is only read, of ints -/
inductive Seqd : Dv → List Int → Prop
  | lst (l : List Int) : Seqd (.lst (iz l)) l
  | tup (l : List Int) : Seqd (.tup (iz l)) l
  | rls (l : List Int) : Seqd (.rls (iz l)) l
theorem Seqd.walk {d : Dv} {l : List Int} (h : Seqd d l) : walk? d = some (iz l) := by cases h <;> rfl
theorem Seqd.items {d : Dv} {l : List Int} (h : Seqd d l) : items? d = some (iz l) := by cases h <;> rfl
theorem Seqd.ix {d : Dv} {l : List Int} (h : Seqd d l) (i : Int) (ρ : VE) : pIx d (.int i) ρ = match atI (iz l) i with
  | some v => .ok (.d v) ρ
  | none => .bad := by
  cases h <;> (simp only [pIx, items?, run_bind, run_opt_some]; cases atI (iz l) i <;> rfl)
theorem Seqd.len {d : Dv} {l : List Int} (h : Seqd d l) (ρ : VE) : qLen [d] ρ = .ok (.d (.int l.length)) ρ := by
  cases h <;> simp [qLen, items?]
theorem atI_iz (l : List Int) (i : Int) : atI (iz l) i = (atI l i).map Dv.int := by
  unfold atI
  rw [iz_length]
  cases ixN l.length i with
  | none => rfl
  | some j => simp [iz_get]
theorem atI_bz (l : List Bool) (i : Int) : atI (bz l) i = (atI l i).map Dv.bl := by
  unfold atI
  rw [bz_length]
  cases ixN l.length i with
  | none => rfl
  | some j => simp [bz_get]
theorem atI_at {α : Type} {l : List α} {i : Nat} (h : i < l.length) : atI l (i : Int) = some l[i] := by
  unfold atI ixN
  rw [if_pos (Int.natCast_nonneg i), if_pos (by exact_mod_cast h)]
  simp [h]
/-! ### ranges, their bounds out of sight -/
def R62 (i : Int) : Prop := -(2 ^ 62) ≤ i ∧ i < 2 ^ 62
theorem r62 {i : Int} (h1 : -1000000 ≤ i) (h2 : i ≤ 1000000) : R62 i := ⟨by omega, by omega⟩
theorem r62n {n : Nat} (h2 : n ≤ 1000000) : R62 (n : Int) := r62 (by omega) (by omega)
def rg1 : Option (List Int) → M (List Dv)
  | some [j] => do
    M.grd (-(2 ^ 62) ≤ j ∧ j < 2 ^ 62)
    pure (rng 0 j.toNat)
  | _ => M.bad
def rg2 : Option (List Int) → M (List Dv)
  | some [i, j] => do
    M.grd (-(2 ^ 62) ≤ i ∧ i < 2 ^ 62 ∧ -(2 ^ 62) ≤ j ∧ j < 2 ^ 62)
    pure (rng i (j - i).toNat)
  | _ => M.bad
theorem run_range1 (ma : M (List AV)) (ρ : VE) : iRange1 ma ρ = match ma ρ with
    | .ok as ρ1 => (match conL as ρ1 with
      | .ok ds ρ2 => rg1 (ints? ds) ρ2
      | .exc e ρ2 => .exc e ρ2
      | .bad => .bad)
    | .exc e ρ1 => .exc e ρ1
    | .bad => .bad := by
  unfold iRange1
  rw [run_bind]
  cases ma ρ with
  | ok as ρ1 =>
    simp only
    rw [run_bind]
    cases conL as ρ1 with
    | ok ds ρ2 =>
      simp only
      cases ints? ds with
      | none => rfl
      | some ns =>
        match ns with
        | [] => rfl
        | [j] => rfl
        | _ :: _ :: _ => rfl
    | exc e ρ2 => rfl
    | bad => rfl
  | exc e ρ1 => rfl
  | bad => rfl
theorem run_range2 (ma : M (List AV)) (ρ : VE) : iRange2 ma ρ = match ma ρ with
    | .ok as ρ1 => (match conL as ρ1 with
      | .ok ds ρ2 => rg2 (ints? ds) ρ2
      | .exc e ρ2 => .exc e ρ2
      | .bad => .bad)
    | .exc e ρ1 => .exc e ρ1
    | .bad => .bad := by
  unfold iRange2
  rw [run_bind]
  cases ma ρ with
  | ok as ρ1 =>
    simp only
    rw [run_bind]
    cases conL as ρ1 with
    | ok ds ρ2 =>
      simp only
      cases ints? ds with
      | none => rfl
      | some ns =>
        match ns with
        | [] => rfl
        | [j] => rfl
        | [i, j] => rfl
        | _ :: _ :: _ :: _ => rfl
    | exc e ρ2 => rfl
    | bad => rfl
  | exc e ρ1 => rfl
  | bad => rfl
theorem rg1_ok {j : Int} (h : R62 j) (ρ : VE) : rg1 (some [j]) ρ = .ok (rng 0 j.toNat) ρ := by
  show ((M.grd (-(2 ^ 62) ≤ j ∧ j < 2 ^ 62) >>= fun _ => (pure (rng 0 j.toNat) : M (List Dv))) ρ) = _
  rw [run_bind, run_grd, if_pos (show -(2 ^ 62) ≤ j ∧ j < 2 ^ 62 from h)]; rfl
theorem rg2_ok {i j : Int} (h : R62 i) (h' : R62 j) (ρ : VE) : rg2 (some [i, j]) ρ = .ok (rng i (j - i).toNat) ρ := by
  show ((M.grd (-(2 ^ 62) ≤ i ∧ i < 2 ^ 62 ∧ -(2 ^ 62) ≤ j ∧ j < 2 ^ 62) >>= fun _ => (pure (rng i (j - i).toNat) : M (List Dv))) ρ) = _
  rw [run_bind, run_grd, if_pos ⟨h.1, h.2, h'.1, h'.2⟩]; rfl
end P0
end
section
set_option Elab.async false
set_option linter.all false
set_option maxRecDepth 100000
set_option maxHeartbeats 4000000
/-! P0, own instances: fields, making, isinstance; comb; texts' methods. -/
namespace P0
open PySem PySem.Spec L2
open PyProof.Rows hiding St

/-! ### fields -/
section
variable {K : PySem.W.Frag} {F H : Hp}
theorem Reps.look {f : Str} {d : Dv} : ∀ {ks : List Str} {xs : List Dv} {vs : List V}, ks.length = xs.length → Reps K F xs vs → (ks.zip xs).lookup f = some d → ∃ v, (ks.zip vs).lookup f = some v ∧ Rep K F d v
  | [], _, _, _, _, e => by simp at e
  | k :: ks, [], _, l, _, _ => by simp at l
  | k :: ks, x :: xs, v :: vs, l, .cons r t, e => by
    rw [List.zip_cons_cons, List.lookup_cons] at e
    rw [List.zip_cons_cons, List.lookup_cons]
    cases q : f == k with
    | true =>
      rw [q] at e
      cases e
      exact ⟨v, rfl, r⟩
    | false =>
      rw [q] at e
      exact Reps.look (by simpa using l) t e
/-- a field is written -/
def putG {α : Type} (f : Str) (d : α) : List (Str × α) → List (Str × α)
  | [] => [(f, d)]
  | (g, x) :: r => if g = f then (g, d) :: r else (g, x) :: putG f d r
theorem putG_V (f : Str) (v : V) : ∀ fs : List (Str × V), putG f v fs = putF f v fs
  | [] => rfl
  | (g, x) :: r => by rw [putG, putF, putG_V f v r]
theorem Reps.putG {f : Str} {d : Dv} {v : V} (h : Rep K F d v) : ∀ {ks : List Str} {xs : List Dv} {vs : List V}, ks.length = xs.length → Reps K F xs vs →
    ∃ (ks' : List Str) (xs' : List Dv) (vs' : List V), ks'.length = xs'.length ∧ Reps K F xs' vs' ∧ P0.putG f d (ks.zip xs) = ks'.zip xs' ∧ P0.putG f v (ks.zip vs) = ks'.zip vs'
  | [], [], _, l, .nil => ⟨[f], [d], [v], rfl, .cons h .nil, rfl, rfl⟩
  | [], _ :: _, _, l, _ => by simp at l
  | k :: ks, [], _, l, _ => by simp at l
  | k :: ks, x :: ds, u :: us, l, .cons r t => by
    have l' : ks.length = ds.length := by simpa using l
    by_cases q : k = f
    · refine ⟨k :: ks, d :: ds, v :: us, by simp [l'], .cons h t, ?_, ?_⟩
      · rw [List.zip_cons_cons, P0.putG, if_pos q, List.zip_cons_cons]
      · rw [List.zip_cons_cons, P0.putG, if_pos q, List.zip_cons_cons]
    · obtain ⟨ks', xs', vs', a1, a2, a3, a4⟩ := Reps.putG h l' t
      refine ⟨k :: ks', x :: xs', u :: vs', by simp [a1], .cons r a2, ?_, ?_⟩
      · rw [List.zip_cons_cons, P0.putG, if_neg q, List.zip_cons_cons, a3]
      · rw [List.zip_cons_cons, P0.putG, if_neg q, List.zip_cons_cons, a4]
theorem Top.ins (e : Ext F H) {C : Addr} {fs : List (Str × Dv)} {v : V} (h : Top K F H (.ins C fs) v) : ∃ a dx ks xs vs, v = .ref a ∧ H a = some (.ins C dx (List.zip ks vs)) ∧ fs = List.zip ks xs ∧ ks.length = xs.length ∧ Reps K F xs vs := by
  rcases h with h | ⟨p, o, rfl, ho, h⟩
  · cases h with
    | ins h l r => exact ⟨_, _, _, _, _, rfl, e _ _ h, rfl, l, r⟩
  · cases h with
    | ins l r => exact ⟨_, _, _, _, _, rfl, ho, rfl, l, r⟩
end
/-- what is asked of an own class -/
structure InsC (K : PySem.W.Frag) (C : Addr) : Prop where
  cl : Cls K C
  ha : PySem.W.findIn K (.ref C) "__class__" = some (some (.builtin "object.__class__"))
  hn : PySem.W.specialIn K (.builtin "object.__class__") "__get__" = some (some (.builtin "getset_descriptor.__get__"))
  ht : PySem.W.takesIn K (.builtin "object.__class__") = some true
  hm : PySem.W.mroIn K C (.type "object") = some true
/-- the fields of the own classes -/
def FldT (K : PySem.W.Frag) (tbl : List (Addr × Str)) : Prop := ∀ q ∈ tbl, Cls K q.1 ∧ NoAttr K q.1 q.2
section
variable {X : Cx} {W : Wh} {a b e o : Expr} {es : List Expr} {x : Str} {p pos pos' : Pos} {f : Str} {tbl : List (Addr × Str)}
def pFld (tbl : List (Addr × Str)) (f : Str) : Dv → M RV
  | .ins C fs => do
    M.grd ((C, f) ∈ tbl)
    let d ← M.opt (fs.lookup f)
    pure (.d d)
  | _ => M.bad
theorem se_fld {ma : M AV} (ht : FldT X.K tbl) (ha : SF X W a ma) (hb : attributeBase a f X.env (eval a X.env) = eval a X.env := by rfl) : SE X W (.Attribute a f pos) (b1 (pFld tbl f) ma) := by
  obtain ⟨ta, pa, qa⟩ := ha.ex
  refine ⟨_, pe_fld pa hb, fun g hw F ρ σ H Q rel z => ?_⟩
  unfold b1 at z
  rw [RP_bnd] at z
  refine qa g hw F ρ σ H _ rel (z.imp (fun x ρ1 z1 => ?_) fun _ _ k => k)
  intro v F1 H1 e1 rel1 ok1
  rw [RP_bnd] at z1
  obtain ⟨dx, tx, z2⟩ := con_ok rel1 ok1 z1
  cases dx with
  | ins C fs =>
    obtain ⟨q, dd, ks, xs, vs, rfl, hq, rfl, l, r⟩ := tx.ins rel1.ext
    unfold pFld at z2
    rw [RP_bnd] at z2
    obtain ⟨hm, z3⟩ := RP_grd z2
    rw [RP_bnd] at z3
    obtain ⟨d, hd, z4⟩ := RP_opt z3
    obtain ⟨v, hv, rv⟩ := r.look l hd
    obtain ⟨c1, c2⟩ := ht _ hm
    exact ⟨q, C, dd, _, v, rfl, hq, c1, c2, hv, z4 v F1 H1 e1 rel1 rv⟩
  | _ => exact z2.elim
/-- o.f = e, o the instance of slot i -/
def sFldS (tbl : List (Addr × Str)) (i : Nat) (f : Str) (m : M AV) : M Fl := do
  let a ← m
  let d ← ali a
  let o ← getMu i
  match o with
  | .ins C fs => do
    M.grd ((C, f) ∈ tbl ∧ fs.length < 1000)
    putMu i (.ins C (putG f d fs))
    pure .nx
  | _ => M.bad
theorem st_fld (i : Nat) {y : Str} {py : Pos} {m : M AV} (ht : FldT X.K tbl) (hv : SF X W e m) (hs : swapsWith e (some (.Attribute (.Name y py) f pos')) pos.line X.env = pure false := by rfl) (hN : X.N[i]? = some y := by rfl) (hvi : Vis X.env.scope y := by first | exact Or.inl rfl | exact Or.inr (Or.inl rfl) | exact Or.inr (Or.inr rfl))
    (hd : (y == ("__debug__" : Str)) = false := by decide) (hcd : (y == ("__classdict__" : Str)) = false := by decide) : SS X W (.Assign [.Attribute (.Name y py) f pos'] e pos) (sFldS tbl i f m) := by
  obtain ⟨t, pt, qt⟩ := hv.ex
  refine ⟨_, ps_fld (pv i hN hvi hd hcd) pt hs, fun g hw F ρ σ H D rel z => ?_⟩
  unfold sFldS at z
  rw [RP_bnd] at z
  refine qt g hw F ρ σ H _ rel (z.imp (fun av ρ1 z1 => ?_) fun _ _ k => k)
  intro v F1 H1 e1 rel1 ok1
  rw [RP_bnd] at z1
  obtain ⟨d, F3, ρ3, e3, r3, h3, z4⟩ := ali_ok rel1 ok1 z1
  rw [RP_bnd] at z4
  obtain ⟨b0, o0, p0, ho, m1, m2, m3, m4, z5⟩ := getMu_ok r3 z4
  cases o0 with
  | ins C fs =>
    rw [RP_bnd] at z5
    obtain ⟨⟨hm, hl⟩, z6⟩ := RP_grd z5
    rw [RP_bnd] at z6
    have z7 := putMu_ok m1 z6
    cases m4 with
    | @ins C dx ks xs vs l r =>
      obtain ⟨ks', xs', vs', a1, a2, a3, a4⟩ := r.putG (f := f) h3 l
      obtain ⟨c1, c2⟩ := ht _ hm
      refine ⟨_, m2, p0, C, dx, _, rfl, m3, c1, c2, ?_, ?_⟩
      · rw [List.length_zip] at hl ⊢
        rw [← r.length]; exact hl
      · rw [← putG_V, a4]
        rw [a3] at z7
        exact z7 σ F3 _ (e1.trans e3) (r3.write m1 m2 (.ins a1 a2))
  | _ => exact z5.elim
/-! ### isinstance(x, C) of an instance of C -/
def eIsI (C : Addr) (ma : M AV) : M RV := do
  let a ← ma
  let d ← con a
  match d with
  | .ins C' _ => do
    M.grd (C' = C)
    pure (.d (.bl true))
  | _ => M.bad
theorem se_isI {C : Addr} {cn : Str} {pc : Pos} {ma : M AV} (hC : InsC X.K C) (hm : X.mg cn = some (.ref C)) (ha : SF X W a ma) (hg : Gl X "isinstance") (hgc : Gl X cn) (hz : X.mg "isinstance" = none) (hdc : (cn == ("__debug__" : Str)) = false := by decide)
    (he : starEach [a, .Name cn pc] X.env = (false, eval a X.env) :: starEach [.Name cn pc] X.env := by rfl) (hpl : (backTo pos (starEach [.Name cn pc] X.env)).any (·.1) = false := by rfl)
    (he2 : starEach [.Name cn pc] X.env = (false, eval (.Name cn pc) X.env) :: starEach [] X.env := by rfl) :
    SE X W (.Call (.Name "isinstance" p) [a, .Name cn pc] [] pos) (eIsI C ma) := by
  obtain ⟨ta, pa, qa⟩ := ha.ex
  refine ⟨_, pe_callB call_isi hg hz (by decide +kernel) (pa_cons pa (pa_cons (pe_glob hgc hm (v := .ref C) rfl hdc) pa_nil he2) he) (by decide) (by decide) he hpl, fun g hw F ρ σ H Q rel z => ?_⟩
  unfold eIsI at z
  rw [RP_bnd] at z
  refine qa g hw F ρ σ H _ rel (z.imp (fun x ρ1 z1 => ?_) fun _ _ k => k)
  intro v F1 H1 e1 rel1 ok1
  rw [RP_bnd] at z1
  obtain ⟨dx, tx, z2⟩ := con_ok rel1 ok1 z1
  cases dx with
  | ins C' fs =>
    rw [RP_bnd] at z2
    obtain ⟨rfl, z3⟩ := RP_grd z2
    obtain ⟨q, dd, ks, xs, vs, rfl, hq, rfl, l, r⟩ := tx.ins rel1.ext
    refine ⟨_, _, .ref C', .ref C', true, rfl, .own C', .base (.ins hq hC.cl hC.ha hC.hn hC.ht hC.hm), ?_, z3 _ F1 H1 e1 rel1 (.bl true)⟩
    unfold PySem.W.kitOne
    rw [if_pos (by exact beq_iff_eq.mpr rfl)]
  | _ => exact z2.elim
/-! ### making -/
theorem make_guards {A : Around} {C : Addr} {us : List Value} {kw : List (Str × Value)} : (A.under (.builtin "type.__call__" ⟨.ref C :: us, kw⟩)).guards = A.guards := by
  first | rfl | simp [Around.under, Code.weight, Code.isCreation, Code.isGuard, Code.isCaller, Code.frames, Code.isFrame, guardIds]
theorem run_makeG {k : Nat} {fa C : Addr} {fd : FuncData} {ps : List Str} {sp : Sp} {E : L2.St → XK} {pins : List (Addr × Obj)} {σ : L2.St} {H : Hp} {s : Shared} {Q : VK} {us : List Value} {vs : List V} (Mk' : Mk X.K C fa) (Fk : FnG X.prog X.w X.K X.mg X.base k fa fd ps sp) (hgd : X.A.guards = some []) (hr : Room (k + 1) X.A) (hb : Binds X.K fd ps [])
    (hx : PassesAt (L2.CX X.prog X.w) X σ (E σ)) (I : Inv X pins σ H s) (r : Vals vs us)
    (h : ∀ x dx, H x = none → H dx = none → dx ≠ x → sp (.ref x :: vs) (upd (upd H dx (.own x)) x (.ins C dx [])) (fun v H2 => v = .non ∧ Q (.ref x) H2) (E σ)) :
    wpAny (model X.prog X.w) X.A (call (.ref C) us) (EP X pins σ Q) X.xe s := by
  have hq := h (s.heap.objs.size + 1) s.heap.objs.size (I.hok.fresh (Nat.le_succ _)) (I.hok.fresh (Nat.le_refl _)) (Nat.ne_of_lt (Nat.lt_succ_self _))
  have I2 := Inv.made (C := C) I
  have r2 : Vals (V.ref (s.heap.objs.size + 1) :: vs) (Value.ref (s.heap.objs.size + 1) :: us) := .cons rfl r
  have b := hb _ (Value.ref (s.heap.objs.size + 1) :: us) I2.kIn (by rw [List.append_nil, ← r2.length]; exact Fk.len _ _ _ _ hq)
  rw [List.append_nil] at b
  refine wpAny_call (make_map (f := fa) I.kIn Mk'.makes Mk'.init (beq_iff_eq.mp Mk'.fn) (codeAny_mono (Fk.run _ X.stack _ _ ⟨Value.ref (s.heap.objs.size + 1) :: us, []⟩ (Value.ref (s.heap.objs.size + 1) :: us) _ _ (E σ) (by rw [make_guards]; exact hgd) (hr.make C us [])
    (I2.env0.make C us []) b r2 hq) fun r s' hq' => ?_))
  cases r with
  | error e => exact hx pins _ _ e s' I2 hq'
  | ok fl =>
    cases fl with
    | ret u =>
      obtain ⟨v, H', I3, rv, ev, q3⟩ := I2.after hq'
      subst ev
      exact ⟨rv, ⟨V.ref (s.heap.objs.size + 1), H', I3, rfl, q3⟩⟩
    | next => exact False.elim hq'
    | brk => exact False.elim hq'
    | cont => exact False.elim hq'
theorem pe_makeG {k : Nat} {fa C : Addr} {fd : FuncData} {ps : List Str} {sp : Sp} {E : L2.St → XK} {t : TA} (Mk' : Mk X.K C fa) (Fk : FnG X.prog X.w X.K X.mg X.base k fa fd ps sp) (hgd : X.A.guards = some []) (hr : Room (k + 1) X.A) (hg : Gl X x) (hm : X.mg x = some (.ref C)) (hb : Binds X.K fd ps [])
    (hx : ∀ σ, PassesAt (L2.CX X.prog X.w) X σ (E σ)) (ha : PA X (e :: es) t) (hdb : (x == ("__debug__" : Str)) = false := by decide)
    (he : starEach (e :: es) X.env = (false, eval e X.env) :: starEach es X.env := by rfl) (hpl : (backTo pos (starEach es X.env)).any (·.1) = false := by rfl) :
    PE X (.Call (.Name x p) (e :: es) [] pos) (fun σ H Q => t σ H fun vs H1 => ∀ x dx, H1 x = none → H1 dx = none → dx ≠ x → sp (.ref x :: vs) (upd (upd H1 dx (.own x)) x (.ins C dx [])) (fun v H2 => v = .non ∧ Q (.ref x) H2) (E σ)) := by
  refine ⟨fun pins s σ H Q I h => ?_⟩
  refine wpAny_Call_Name_kw (ld_glob I hg hm ?_ hdb)
  refine PySem.W.callWith_K (h₀ := X.base) I.ok.mod.kin Mk'.kp (thn (ha.run pos pins s σ H _ I h) fun us s1 ⟨vs, H1, I1, r, q⟩ => ⟨I1.kIn, ?_⟩) he hpl
  exact run_makeG Mk' Fk hgd hr hb (hx σ) I1 r q
def kMake (r : R RV) : M RV := fun ρ => match r with
  | .ok (.d .non) ρ' => match (ρ'[0]? : Option Sl) with
    | some (Sl.mu true d) => .ok (.fr d) ρ
    | _ => .bad
  | .ok _ _ => .bad
  | .exc er _ => .exc er ρ
  | .bad => .bad
def eMake (C : Addr) (n : Nat) (φ : List Sl → R RV) (ma : M (List AV)) : M RV := do
  let as ← ma
  let ds ← aliL as
  M.grd (ds.length = n)
  kMake (φ (Sl.mu true (.ins C []) :: ds.map Sl.val))
theorem se_make {k n : Nat} {fa C : Addr} {fd : FuncData} {ps : List Str} {φ : List Sl → R RV} {ma : M (List AV)} (Mk' : Mk X.K C fa) (G : FnG X.prog X.w X.K X.mg X.base k fa fd ps (spI X.K X.mg φ n)) (hgd : X.A.guards = some []) (hr : Room (k + 1) X.A) (tk : Takes X W.w) (hm : X.mg x = some (.ref C))
    (hb : Binds X.K fd ps []) (hg : Gl X x) (ha : SA X W (e :: es) ma) (hdb : (x == ("__debug__" : Str)) = false := by decide)
    (he : starEach (e :: es) X.env = (false, eval e X.env) :: starEach es X.env := by rfl) (hpl : (backTo pos (starEach es X.env)).any (·.1) = false := by rfl) : SE X W (.Call (.Name x p) (e :: es) [] pos) (eMake C n φ ma) := by
  obtain ⟨t, pt, qt⟩ := ha.ex
  refine ⟨_, pe_makeG Mk' G hgd hr hg hm hb (fun σ => passAt tk σ) pt hdb he hpl, fun g hw F ρ σ H Q rel z => ?_⟩
  unfold eMake at z
  rw [RP_bnd] at z
  refine qt g hw F ρ σ H _ rel (z.imp (fun as ρ1 z1 => ?_) fun _ _ k => k)
  intro vs F1 H1 e1 rel1 ok1
  rw [RP_bnd] at z1
  obtain ⟨ds, F2, ρ2, e2, r2, h2, z2⟩ := aliL_ok rel1 ok1 z1
  rw [RP_bnd] at z2
  obtain ⟨hn, z2⟩ := RP_grd z2
  intro x dx hx hdx ne
  have ext2 : Ext H1 (upd (upd H1 dx (.own x)) x (.ins C dx [])) := fun b u q => by
    rw [upd_ne (ne_of_none q hx), upd_ne (ne_of_none q hdx)]; exact q
  have cpn : ∀ {F' H' : Hp}, CP (some x) F2 (upd (upd H1 dx (.own x)) x (.ins C dx [])) F' H' → CP none F2 H1 F' H' := fun {F' H'} c => {
    e1 := c.e1
    e2 := c.e2
    new := fun b q => by
      rcases c.new b q with q | q
      · exact .inl q
      · refine .inr ?_
        cases y : H1 b with
        | none => rfl
        | some u => rw [ext2 b u y] at q; cases q
    keep := fun b u q _ => c.keep b u (ext2 b u q) (fun z => by
      cases z
      rw [hx] at q; cases q)
    dom := fun b q => c.dom b (by
      obtain ⟨u, y⟩ := Option.ne_none_iff_exists'.mp q
      rw [ext2 b u y]; exact Option.some_ne_none u) }
  refine ⟨F2, .ins C [], x, _, ds, vs, rfl, hn, fun b u q => ext2 b u (r2.ext b u q), r2.ext.none hx, upd_same, RepO.ins (ks := []) (xs := []) rfl .nil, h2, ?_⟩
  unfold kMake at z2
  cases hφ : φ (Sl.mu true (.ins C []) :: ds.map Sl.val) with
  | bad => rw [hφ] at z2; exact z2
  | exc er ρ' =>
    rw [hφ] at z2
    intro cls d F' H' d' o' c0 _ _ _ _ ek
    have c := cpn c0
    exact z2 cls d σ F' H' ((e1.trans e2).trans c.e1) (r2.called c) ek
  | ok rv ρ' =>
    rw [hφ] at z2
    intro v F' H' d' o' c0 q0 q1 q2 q3 rk
    have c := cpn c0
    cases rv with
    | d d =>
      cases d with
      | non =>
        simp only [q0] at z2
        cases rk
        refine ⟨rfl, ?_⟩
        exact z2 _ F' H' ((e1.trans e2).trans c.e1) (r2.called c) (RvC.ok (io := none) r2 (r2.called c) (r2.calledO c) ⟨x, o', rfl, q1, q2, q3, hx⟩)
      | _ => exact z2.elim
    | _ => exact z2.elim
/-! ### comb -/
def rComb : List V → Hp → VK → Prop := fun vs H Q => ∃ a b : Int, vs = [.int a, .int b] ∧ 0 ≤ a ∧ 0 ≤ b ∧ a ≤ 18000 ∧ Q (.int (PySem.W.mcComb a b)) H
theorem cr_comb : CallR X (.builtin "math.comb") rComb := by
  intro pins s σ H vs us Q I r h
  obtain ⟨a, b, rfl, h1, h2, h3, q⟩ := h
  obtain ⟨t, u, rfl⟩ := Vals.int2 r
  exact PySem.W.mc_comb h1 h2 (by omega) (.inr h3) fun _ => ⟨.int _, H, I.tok _, ⟨_, rfl⟩, q⟩
def qComb : List Dv → M RV
  | [.int a, .int b] => do
    M.grd (0 ≤ a ∧ 0 ≤ b ∧ a ≤ 18000)
    pure (.d (.int (PySem.W.mcComb a b)))
  | _ => M.bad
end
end P0
end
section
set_option Elab.async false
set_option linter.all false
set_option maxRecDepth 100000
set_option maxHeartbeats 4000000
/-! P0, texts: count, join, repetition; a = b = e; chains of three; is True; ** of great numbers; calls with positions and names; a look that keeps an instance. -/
namespace P0
open PySem PySem.Spec L2
open PyProof.Rows hiding St

section
variable {X : Cx} {W : Wh} {a b c d e o : Expr} {es : List Expr} {x : Str} {p pos pos' apos : Pos}
/-! ### s.m(t) -/
def str? : Dv → Option Str
  | .str x => some x
  | _ => none
theorem str?_eq {d : Dv} {x : Str} (h : str? d = some x) : d = .str x := by
  cases d <;> first | (cases h; rfl) | cases h
def mS1 (p : Str → Dv → M RV) (ma mb : M AV) : M RV := do
  let x ← ma
  let d0 ← con x
  let s ← M.opt (str? d0)
  let y ← mb
  let d ← con y
  p s d
theorem se_m1 {id : String} {name : Str} {r : V → List V → Hp → VK → Prop} {p : Str → Dv → M RV} {ma mb : M AV} (slot : Slot "str" name id) (ty : typeOf (.builtin id) = pure (.type "method_descriptor")) (rule : MtR X id r)
    (hp : ∀ s g F ρ σ H y dy Q W, Rel X.K g F ρ σ H → Top X.K F H dy y → RP (p s dy ρ) (okE X g F σ Q) (exE X g F W) → r (.str s) [y] H Q)
    (ha : SF X W o ma) (hb : SF X W e mb) (hs : starEach [e] X.env = [(false, eval e X.env)] := by rfl) (hbase : attributeBase o name X.env (eval o X.env) = eval o X.env := by rfl) (hline : (apos.endLine == pos.line) = true := by rfl) :
    SE X W (.Call (.Attribute o name apos) [e] [] pos) (mS1 p ma mb) := by
  obtain ⟨ta, pa, qa⟩ := ha.ex
  obtain ⟨tb, pb, qb⟩ := hb.ex
  refine ⟨_, pe_m1 slot ty rule pa pb hs hbase hline, fun g hw F ρ σ H Q rel z => ?_⟩
  unfold mS1 at z
  rw [RP_bnd] at z
  refine qa g hw F ρ σ H _ rel (z.imp (fun av ρ1 z1 => ?_) fun _ _ k => k)
  intro v F1 H1 e1 rel1 ok1
  rw [RP_bnd] at z1
  obtain ⟨d0, t0, z2⟩ := con_ok rel1 ok1 z1
  rw [RP_bnd] at z2
  obtain ⟨s, hs, z3⟩ := RP_opt z2
  obtain rfl := str?_eq hs
  obtain rfl := t0.str
  refine ⟨⟨_, rfl⟩, ?_⟩
  rw [RP_bnd] at z3
  refine qb g hw F1 ρ1 σ H1 _ rel1 (z3.imp (fun bv ρ2 z4 => ?_) fun _ _ k => k.ext e1)
  intro w F2 H2 e2 rel2 ok2
  rw [RP_bnd] at z4
  obtain ⟨dy, ty, z5⟩ := con_ok rel2 ok2 z4
  exact hp s g F2 ρ2 σ H2 w dy Q W rel2 ty (z5.imp (fun _ _ k => k.ext (e1.trans e2)) fun _ _ k => k.ext (e1.trans e2))
def pCount (s : Str) : Dv → M RV
  | .str t => pure (.d (.int (Txt.count s t)))
  | _ => M.bad
theorem se_count {ma mb : M AV} (ha : SF X W o ma) (hb : SF X W e mb) (hs : starEach [e] X.env = [(false, eval e X.env)] := by rfl) (hbase : attributeBase o "count" X.env (eval o X.env) = eval o X.env := by rfl) (hline : (apos.endLine == pos.line) = true := by rfl) :
    SE X W (.Call (.Attribute o "count" apos) [e] [] pos) (mS1 pCount ma mb) :=
  se_m1 PySem.F.slot_str_count PySem.F.type_str_count mt_count (fun s g F ρ σ H y dy Q W rel ty z => by
    unfold pCount at z
    split at z
    · obtain rfl := ty.str
      exact ⟨_, _, rfl, rfl, z _ F H (Ext.refl F) rel (.int _)⟩
    · exact z.elim) ha hb hs hbase hline
def strs? : List Dv → Option (List Str)
  | [] => some []
  | .str i :: ds => (strs? ds).map (i :: ·)
  | _ :: _ => none
theorem strs?_eq : ∀ {ds : List Dv} {ns : List Str}, strs? ds = some ns → ds = ns.map Dv.str
  | [], ns, h => by cases h; rfl
  | .str i :: ds, ns, h => by
    rw [strs?] at h
    cases q : strs? ds with
    | none => rw [q] at h; cases h
    | some ms =>
      rw [q] at h; cases h
      rw [strs?_eq q, List.map_cons]
  | .non :: _, _, h => by cases h
  | .bl _ :: _, _, h => by cases h
  | .int _ :: _, _, h => by cases h
  | .cl _ :: _, _, h => by cases h
  | .lst _ :: _, _, h => by cases h
  | .tup _ :: _, _, h => by cases h
  | .rls _ :: _, _, h => by cases h
  | .dct _ :: _, _, h => by cases h
  | .dcT _ :: _, _, h => by cases h
  | .ins _ _ :: _, _, h => by cases h
def pJoin (s : Str) (d : Dv) : M RV := do
  let xs ← M.opt (items? d)
  let ys ← M.opt (strs? xs)
  M.grd ((ys.map (·.length)).sum + ys.length * s.length ≤ 16777216)
  pure (.d (.str (Txt.join s ys)))
theorem se_join {ma mb : M AV} (ha : SF X W o ma) (hb : SF X W e mb) (hs : starEach [e] X.env = [(false, eval e X.env)] := by rfl) (hbase : attributeBase o "join" X.env (eval o X.env) = eval o X.env := by rfl) (hline : (apos.endLine == pos.line) = true := by rfl) :
    SE X W (.Call (.Attribute o "join" apos) [e] [] pos) (mS1 pJoin ma mb) :=
  se_m1 PySem.F.slot_str_join PySem.F.type_str_join mt_join (fun s g F ρ σ H y dy Q W rel ty z => by
    unfold pJoin at z
    rw [RP_bnd] at z
    obtain ⟨xs, hx, z1⟩ := RP_opt z
    rw [RP_bnd] at z1
    obtain ⟨ys, hy, z2⟩ := RP_opt z1
    rw [RP_bnd] at z2
    obtain ⟨hl, z3⟩ := RP_grd z2
    have hxs := strs?_eq hy
    rw [hxs] at hx
    obtain ⟨a, us, rfl, h1, h2⟩ := ty.seq rel.ext hx
    obtain rfl := h2.strs_inv
    exact ⟨s, a, ys, rfl, rfl, h1, hl, z3 _ F H (Ext.refl F) rel (.str _)⟩) ha hb hs hbase hline
/-! ### s * n -/
theorem mulOk_of {x : Str} {n : Int} (h1 : x.length ≤ 1000) (h2 : -1000000 ≤ n) (h3 : n ≤ 10000) : MulOk x n := by
  refine ⟨?_, fun hn _ => ?_, fun hn _ => ?_⟩
  · rw [decide_eq_false (by omega), decide_eq_false (by omega)]; rfl
  · have : (x.length : Int) ≤ (2 ^ 63 - 1) / n := by
      refine Int.le_ediv_of_mul_le (by omega) ?_
      have : (x.length : Int) * n ≤ 1000 * 10000 := Int.mul_le_mul (by omega) h3 (by omega) (by omega)
      omega
    omega
  · have : x.length * n.toNat ≤ 1000 * 10000 := Nat.mul_le_mul h1 (by omega)
    have e : sizeLine = 16777216 := by decide
    unfold Builtin.Str.tooLong
    rw [decide_eq_false (by omega)]
def rRepS : R2 := fun x y H Q => ∃ s n, x = .str s ∧ y = .int n ∧ MulOk s n ∧ Q (.str (Txt.mul s n)) H
theorem op_repS : OpR X (binaryOp .Mult) rRepS := by
  intro pins s σ H x y v u Q I rx ry h
  obtain ⟨a, n, rfl, rfl, hok, q⟩ := h
  obtain ⟨t, rfl⟩ := rx
  obtain ⟨t', rfl⟩ := ry
  exact PySem.SB.mul hok fun t2 k => ⟨.str _, H, I.tok _, ⟨_, rfl⟩, q⟩
def pRepS : Dv → Dv → M RV
  | .str s, .int n => do
    M.grd (s.length ≤ 1000 ∧ -1000000 ≤ n ∧ n ≤ 10000)
    pure (.d (.str (Txt.mul s n)))
  | _, _ => M.bad
theorem p_repS : P2 X rRepS pRepS := by
  intro g F ρ σ H x y dx dy Q W rel tx ty z
  unfold pRepS at z
  split at z
  · rw [RP_bnd] at z
    obtain ⟨⟨h1, h2, h3⟩, z⟩ := RP_grd z
    exact ⟨_, _, tx.str, ty.int, mulOk_of h1 h2 h3, z _ F H (Ext.refl F) rel (.str _)⟩
  · exact z.elim
/-! ### ** of great numbers -/
def CPowW (i j : Int) : Prop := 0 ≤ j ∧ j ≤ 100 ∧ i.natAbs.log2 < 100000
instance {i j : Int} : Decidable (CPowW i j) := by unfold CPowW; infer_instance
theorem op_powW : OpR X (binaryOp .Pow) (rI CPowW fun i j => .int (i ^ j.toNat)) := opI fun i j _ _ _ _ _ hc q => by
  obtain ⟨h1, h2, h3⟩ := hc
  refine pow_int h1 ?_ q
  have b : Builtin.Int.intBits i ≤ i.natAbs.log2 + 1 := by
    unfold Builtin.Int.intBits
    split <;> omega
  have : (Builtin.Int.intBits i : Int) * j ≤ 100001 * 100 := Int.mul_le_mul (by omega) h2 h1 (by omega)
  omega
def pPowW : Dv → Dv → M RV
  | .int i, .int j => do
    M.grd (CPowW i j)
    pure (.d (.int (i ^ j.toNat)))
  | _, _ => M.bad
theorem p_powW : P2 X (rI CPowW fun i j => .int (i ^ j.toNat)) pPowW := by
  intro g F ρ σ H x y dx dy Q W rel tx ty z
  unfold pPowW at z
  split at z
  · rw [RP_bnd] at z
    obtain ⟨hl, z⟩ := RP_grd z
    exact ⟨_, _, tx.int, ty.int, hl, z _ F H (Ext.refl F) rel (.int _)⟩
  · exact z.elim
/-! ### is, is not, of True and False -/
def rIsB (n : Bool) : R2 := fun x y H Q => ∃ i j, x = .bl i ∧ y = .bl j ∧ Q (.bl (if n then !(i == j) else i == j)) H
theorem op_isB : OpR X (compareOp .Is) (rIsB false) := by
  intro pins s σ H x y v u Q I rx ry h
  obtain ⟨i, j, rfl, rfl, q⟩ := h
  cases (show v = Value.bool i from rx)
  cases (show u = Value.bool j from ry)
  refine wpAny_is_plain rfl ⟨.bl (i == j), H, I, ?_, q⟩
  show Value.bool _ = Value.bool _
  cases i <;> cases j <;> rfl
theorem op_notB : OpR X (compareOp .IsNot) (rIsB true) := by
  intro pins s σ H x y v u Q I rx ry h
  obtain ⟨i, j, rfl, rfl, q⟩ := h
  cases (show v = Value.bool i from rx)
  cases (show u = Value.bool j from ry)
  refine wpAny_isNot_plain rfl ⟨.bl (!(i == j)), H, I, ?_, q⟩
  show Value.bool _ = Value.bool _
  cases i <;> cases j <;> rfl
def pIsB (n : Bool) : Dv → Dv → M RV
  | .bl i, .bl j => pure (.d (.bl (if n then !(i == j) else i == j)))
  | _, _ => M.bad
theorem p_isB {n : Bool} : P2 X (rIsB n) (pIsB n) := by
  intro g F ρ σ H x y dx dy Q W rel tx ty z
  unfold pIsB at z
  split at z
  · exact ⟨_, _, tx.bl, ty.bl, z _ F H (Ext.refl F) rel (.bl _)⟩
  · exact z.elim
end
end P0
end
section
set_option Elab.async false
set_option linter.all false
set_option maxRecDepth 100000
set_option maxHeartbeats 4000000
/-! P0: a = b = e, chains of three, f(a, k = b), own ==, a look that keeps what it makes. -/
namespace P0
open PySem PySem.Spec L2
open PyProof.Rows hiding St
open P0 (Ext)

section
variable {X : Cx} {W : Wh} {a b c d e o : Expr} {es : List Expr} {x : Str} {p pos pos' apos : Pos} {t1 t2 : Expr}
/-! ### a = b = e -/
def sAsg2 (m : M AV) (mg1 mg2 : Dv → M Unit) : M Fl := do
  let a ← m
  let d ← ali a
  mg1 d
  mg2 d
  pure .nx
theorem st_asg2 {sl1 sl2 : List Nat} {m : M AV} {mg1 mg2 : Dv → M Unit} (h : SF X W e m) (hg1 : SG X t1 sl1 mg1) (hg2 : SG X t2 sl2 mg2)
    (ha : (assignEach [t1, t2] X.env).map (·.2) = [assign t1 X.env, assign t2 X.env] := by rfl) (hsw : swappedStores [t1, t2] e X.env = pure none := by rfl) : SS X W (.Assign [t1, t2] e pos) (sAsg2 m mg1 mg2) := by
  obtain ⟨t, pt, qt⟩ := h.ex
  obtain ⟨u, pu, qu⟩ := hg1.ex
  obtain ⟨v, pv', qv⟩ := hg2.ex
  refine ⟨_, ps_asg2 pt pu pv' ha hsw, fun g hw F ρ σ H D rel z => ?_⟩
  unfold sAsg2 at z
  rw [RP_bnd] at z
  refine qt g hw F ρ σ H _ rel (z.imp (fun av ρ1 z1 => ?_) fun _ _ k => k)
  intro w F1 H1 e1 rel1 ok1
  rw [RP_bnd] at z1
  obtain ⟨d, F2, ρ2, e2, r2, h2, z2⟩ := ali_ok rel1 ok1 z1
  rw [RP_bnd] at z2
  refine qu g F2 ρ2 σ H1 w d _ _ r2 h2 (z2.imp (fun _ ρ3 z3 => ?_) fun _ _ k => k)
  intro σ3 F3 H3 e3 r3 _ _
  rw [RP_bnd] at z3
  refine qv g F3 ρ3 σ3 H3 w d _ _ r3 (h2.mono e3) (z3.imp (fun _ ρ4 z4 => ?_) fun _ _ k => k)
  intro σ4 F4 H4 e4 r4 _ _
  exact z4 σ4 F4 H4 (((e1.trans e2).trans e3).trans e4) r4
/-! ### a op b op' c op'' d -/
def tChain3 (r r' r'' : R2) (ta tb tc td : TE) : TE := fun σ H Q => ta σ H fun x H1 => tb σ H1 fun y H2 => r x y H2 fun z H3 => ∃ k, z = .bl k ∧
  (if k = true then tc σ H3 fun w H4 => r' y w H4 fun z' H5 => ∃ k', z' = .bl k' ∧ (if k' = true then td σ H5 fun v H6 => r'' w v H6 Q else Q (.bl false) H5) else Q (.bl false) H3)
theorem pe_chain3 {op op' op'' : CmpOp} {r r' r'' : R2} {ta tb tc td : TE} (ho : OpR X (compareOp op) r) (ho' : OpR X (compareOp op') r') (ho'' : OpR X (compareOp op'') r'') (ha : PE X a ta) (hb : PE X b tb) (hc : PE X c tc) (hd : PE X d td)
    (hm : lastMarks [op, op', op''] [b, c, d] = false := by with_unfolding_all rfl) : PE X (.Compare a [op, op', op''] [b, c, d] pos) (tChain3 r r' r'' ta tb tc td) := by
  refine ⟨fun pins s σ H Q I h => ?_⟩
  refine Compare_chain (thn (ha.run pins s σ H _ I h) fun v s1 ⟨x, H1, I1, r1, q1⟩ => chain_link (thn (hb.run pins s1 σ H1 _ I1 q1) fun u s2 ⟨y, H2, I2, r2, q2⟩ =>
    thn (ho pins s2 σ H2 x y v u _ I2 r1 r2 q2) fun d s3 ⟨z, H3, I3, r3, k, e, q3⟩ => ?_)) hm
  subst e
  cases r3
  refine wpAny_truthy_bool ?_
  cases k with
  | false => exact ite_ff ⟨.bl false, H3, I3, rfl, q3⟩
  | true =>
    refine ite_tt (chain_link (thn (hc.run pins s3 σ H3 _ I3 q3) fun w' s4 ⟨z', H4, I4, r4, q4⟩ => thn (ho' pins s4 σ H4 y z' u w' _ I4 r2 r4 q4) fun d s5 ⟨z2, H5, I5, r5, k2, e2, q5⟩ => ?_))
    subst e2
    cases r5
    refine wpAny_truthy_bool ?_
    cases k2 with
    | false => exact ite_ff ⟨.bl false, H5, I5, rfl, q5⟩
    | true => exact ite_tt (chain_last (thn (hd.run pins s5 σ H5 _ I5 q5) fun w2 s6 ⟨z6, H6, I6, r6, q6⟩ => ho'' pins s6 σ H6 z' z6 w' w2 Q I6 r4 r6 q6))
theorem pt_chain3 {op op' op'' : CmpOp} {r r' r'' : R2} {ta tb tc td : TE} (ho : OpR X (compareOp op) r) (ho' : OpR X (compareOp op') r') (ho'' : OpR X (compareOp op'') r'') (ha : PE X a ta) (hb : PE X b tb) (hc : PE X c tc) (hd : PE X d td)
    (hm : lastMarks [op, op', op''] [b, c, d] = false := by with_unfolding_all rfl) : PT X (.Compare a [op, op', op''] [b, c, d] pos) (tTest (tChain3 r r' r'' ta tb tc td)) := by
  refine ⟨fun pins s σ H Q I h => ?_⟩
  refine isTrue_chain (thn (ha.run pins s σ H _ I h) fun v s1 ⟨x, H1, I1, r1, q1⟩ => test_link (thn (hb.run pins s1 σ H1 _ I1 q1) fun u s2 ⟨y, H2, I2, r2, q2⟩ =>
    thn (ho pins s2 σ H2 x y v u _ I2 r1 r2 q2) fun d s3 ⟨z, H3, I3, r3, k, e, q3⟩ => ?_)) hm
  subst e
  cases r3
  refine wpAny_truthy_bool ?_
  cases k with
  | false =>
    obtain ⟨k', e', q'⟩ := q3
    cases e'
    exact ite_ff ⟨H3, I3, q'⟩
  | true =>
    refine ite_tt (test_link (thn (hc.run pins s3 σ H3 _ I3 q3) fun w' s4 ⟨z', H4, I4, r4, q4⟩ => thn (ho' pins s4 σ H4 y z' u w' _ I4 r2 r4 q4) fun d s5 ⟨z2, H5, I5, r5, k2, e2, q5⟩ => ?_))
    subst e2
    cases r5
    refine wpAny_truthy_bool ?_
    cases k2 with
    | false =>
      obtain ⟨k', e', q'⟩ := q5
      cases e'
      exact ite_ff ⟨H5, I5, q'⟩
    | true =>
      refine ite_tt (test_last (thn (hd.run pins s5 σ H5 _ I5 q5) fun w2 s6 ⟨z6, H6, I6, r6, q6⟩ => thn (ho'' pins s6 σ H6 z' z6 w' w2 _ I6 r4 r6 q6) fun d' s7 ⟨z7, H7, I7, r7, k7, e7, q7⟩ => ?_))
      subst e7
      cases r7
      exact wpAny_truthy_bool ⟨H7, I7, q7⟩
def e4 (p p' p'' : Dv → Dv → M RV) (ma mb mc md : M AV) : M RV := do
  let x ← ma
  let y ← mb
  let d ← con x
  let e ← con y
  let k ← toB (p d e)
  if k = true then do
    let w ← mc
    let e ← con y
    let f ← con w
    let k2 ← toB (p' e f)
    if k2 = true then do
      let v ← md
      let f ← con w
      let h ← con v
      p'' f h
    else pure (.d (.bl false))
  else pure (.d (.bl false))
theorem s4 {r r' r'' : R2} {p p' p'' : Dv → Dv → M RV} {ma mb mc md : M AV} (hp : P2 X r p) (hp' : P2 X r' p') (hp'' : P2 X r'' p'')
    (ha : SF X W a ma) (hb : SF X W b mb) (hc : SF X W c mc) (hd : SF X W d md) : ∃ ta tb tc td, PE X a ta ∧ PE X b tb ∧ PE X c tc ∧ PE X d td ∧ ∀ g, W.p g → ∀ F ρ σ H Q, Rel X.K g F ρ σ H → RP (e4 p p' p'' ma mb mc md ρ) (okE X g F σ Q) (exE X g F W) → tChain3 r r' r'' ta tb tc td σ H Q := by
  obtain ⟨ta, pa, qa⟩ := ha.ex
  obtain ⟨tb, pb, qb⟩ := hb.ex
  obtain ⟨tc, pc, qc⟩ := hc.ex
  obtain ⟨td, pd, qd⟩ := hd.ex
  refine ⟨ta, tb, tc, td, pa, pb, pc, pd, fun g hw F ρ σ H Q rel z => ?_⟩
  unfold e4 at z
  rw [RP_bnd] at z
  refine qa g hw F ρ σ H _ rel (z.imp (fun x ρ1 z1 => ?_) fun _ _ k => k)
  intro v F1 H1 e1 rel1 ok1
  rw [RP_bnd] at z1
  refine qb g hw F1 ρ1 σ H1 _ rel1 (z1.imp (fun y ρ2 z2 => ?_) fun _ _ k => k.ext e1)
  intro u F2 H2 e2 rel2 ok2
  rw [RP_bnd] at z2
  obtain ⟨dx, tx, z3⟩ := con_ok rel2 (ok1.mono e2) z2
  rw [RP_bnd] at z3
  obtain ⟨dy, ty, z4⟩ := con_ok rel2 ok2 z3
  rw [RP_bnd] at z4
  refine hp g F2 ρ2 σ H2 v u dx dy _ W rel2 tx ty (toB_ok (z4.imp (fun k ρ3 z5 => ?_) fun _ _ k => k.ext (e1.trans e2)))
  intro F3 H3 f3 rel3
  cases k with
  | false => exact z5 (.bl false) F3 H3 ((e1.trans e2).trans f3) rel3 (.bl false)
  | true =>
    simp only [if_pos] at z5 ⊢
    rw [RP_bnd] at z5
    refine qc g hw F3 ρ3 σ H3 _ rel3 (z5.imp (fun w ρ4 z6 => ?_) fun _ _ k => k.ext ((e1.trans e2).trans f3))
    intro t F4 H4 e4 rel4 ok4
    rw [RP_bnd] at z6
    obtain ⟨dy', ty', z7⟩ := con_ok rel4 ((ok2.mono f3).mono e4) z6
    rw [RP_bnd] at z7
    obtain ⟨dw, tw, z8⟩ := con_ok rel4 ok4 z7
    have E4 := ((e1.trans e2).trans f3).trans e4
    rw [RP_bnd] at z8
    refine hp' g F4 ρ4 σ H4 u t dy' dw _ W rel4 ty' tw (toB_ok (z8.imp (fun k2 ρ5 z9 => ?_) fun _ _ k => k.ext E4))
    intro F5 H5 e5 rel5
    cases k2 with
    | false => exact z9 (.bl false) F5 H5 (E4.trans e5) rel5 (.bl false)
    | true =>
      simp only [if_pos] at z9 ⊢
      rw [RP_bnd] at z9
      refine qd g hw F5 ρ5 σ H5 _ rel5 (z9.imp (fun vv ρ6 z10 => ?_) fun _ _ k => k.ext (E4.trans e5))
      intro t2 F6 H6 e6 rel6 ok6
      rw [RP_bnd] at z10
      obtain ⟨dw', tw', z11⟩ := con_ok rel6 ((ok4.mono e5).mono e6) z10
      rw [RP_bnd] at z11
      obtain ⟨dv, tv, z12⟩ := con_ok rel6 ok6 z11
      exact hp'' g F6 ρ6 σ H6 t t2 dw' dv Q W rel6 tw' tv (z12.imp (fun _ _ k => k.ext ((E4.trans e5).trans e6)) fun _ _ k => k.ext ((E4.trans e5).trans e6))
theorem se_chain3 {op op' op'' : CmpOp} {r r' r'' : R2} {p p' p'' : Dv → Dv → M RV} {ma mb mc md : M AV} (ho : OpR X (compareOp op) r) (ho' : OpR X (compareOp op') r') (ho'' : OpR X (compareOp op'') r'') (hp : P2 X r p) (hp' : P2 X r' p') (hp'' : P2 X r'' p'')
    (ha : SF X W a ma) (hb : SF X W b mb) (hc : SF X W c mc) (hd : SF X W d md) (hm : lastMarks [op, op', op''] [b, c, d] = false := by with_unfolding_all rfl) : SE X W (.Compare a [op, op', op''] [b, c, d] pos) (e4 p p' p'' ma mb mc md) := by
  obtain ⟨ta, tb, tc, td, pa, pb, pc, pd, q⟩ := s4 hp hp' hp'' ha hb hc hd
  exact ⟨_, pe_chain3 ho ho' ho'' pa pb pc pd hm, q⟩
theorem st_chain3 {op op' op'' : CmpOp} {r r' r'' : R2} {p p' p'' : Dv → Dv → M RV} {ma mb mc md : M AV} (ho : OpR X (compareOp op) r) (ho' : OpR X (compareOp op') r') (ho'' : OpR X (compareOp op'') r'') (hp : P2 X r p) (hp' : P2 X r' p') (hp'' : P2 X r'' p'')
    (ha : SF X W a ma) (hb : SF X W b mb) (hc : SF X W c mc) (hd : SF X W d md) (hm : lastMarks [op, op', op''] [b, c, d] = false := by with_unfolding_all rfl) : STt X W (.Compare a [op, op', op''] [b, c, d] pos) (toB (e4 p p' p'' ma mb mc md)) := by
  obtain ⟨ta, tb, tc, td, pa, pb, pc, pd, q⟩ := s4 hp hp' hp'' ha hb hc hd
  exact ⟨_, pt_chain3 ho ho' ho'' pa pb pc pd hm, fun g hw F ρ σ H Q rel z => q g hw F ρ σ H _ rel (toB_ok z)⟩
/-! ### f(a, .., k = b, ..): positions first, names in the parameters' order -/
def KwX (K : PySem.W.Frag) (fd : FuncData) (ps ks : List Str) : Prop := ∀ (s : Shared) (us ws : List Value), K.In s.heap → us.length + ws.length = ps.length → ws.length = ks.length → BindsTo s fd ⟨us, ks.zip ws⟩ (ps.zip (us ++ ws))
theorem Paired.app {α β : Type} {F : α → β → Prop} : ∀ {as bs : List α} {us vs : List β}, Paired F as us → Paired F bs vs → Paired F (as ++ bs) (us ++ vs)
  | _, _, _, _, .nil, s => s
  | _, _, _, _, .cons a r, s => .cons a (Paired.app r s)
theorem Paired.len {α β : Type} {F : α → β → Prop} : ∀ {as : List α} {us : List β}, Paired F as us → as.length = us.length
  | _, _, .nil => rfl
  | _, _, .cons _ r => by rw [List.length_cons, List.length_cons, Paired.len r]
def eCallX (n nk : Nat) (φ : List Sl → R RV) (ma mb : M (List AV)) : M RV := do
  let as ← ma
  let bs ← mb
  M.grd (bs.length = nk)
  let ds ← aliL (as ++ bs)
  M.grd (ds.length = n)
  kCall (φ (ds.map Sl.val))
theorem se_callX {k n nk : Nat} {fa : Addr} {fd : FuncData} {ps ks : List Str} {kws : List Keyword} {φ : List Sl → R RV} {ma mb : M (List AV)} (G : FnG X.prog X.w X.K X.mg X.base k fa fd ps (spF X.K X.mg φ n)) (hgd : X.A.guards = some []) (hr : Room k X.A) (tk : Takes X W.w) (hm : X.mg x = some (.ref fa))
    (hk : PySem.W.keepIn X.K (.ref fa) = true) (hb : KwX X.K fd ps ks) (hg : Gl X x) (ha : SA X W (e :: es) ma) (hkw : SK X W kws mb) (hdb : (x == ("__debug__" : Str)) = false := by decide)
    (hall : (backToKw pos (keywordEach kws X.env)).all (·.1.isSome) = true := by rfl) (hks : (backToKw pos (keywordEach kws X.env)).filterMap (·.1) = ks := by rfl)
    (hkl : nk = ks.length := by rfl)
    (he : starEach (e :: es) X.env = (false, eval e X.env) :: starEach es X.env := by rfl)
    (hpl : ((backTo pos (starEach (e :: es) X.env)).any (·.1) || (backToKw pos (keywordEach kws X.env)).any (·.1.isNone)) = false := by rfl) : SE X W (.Call (.Name x p) (e :: es) kws pos) (eCallX n nk φ ma mb) := by
  subst hkl
  obtain ⟨t, pt, qt⟩ := ha.ex
  obtain ⟨u, pu, qu⟩ := hkw.ex
  refine ⟨fun σ H Q => t σ H fun vs H1 => u σ H1 fun zs H2 => zs.length = ks.length ∧ spF X.K X.mg φ n (vs ++ zs) H2 Q (WE W.w σ), ⟨fun pins s σ H Q I h => ?_⟩, fun g hw F ρ σ H Q rel z => ?_⟩
  · refine wpAny_Call_Name_kw (ld_glob I hg hm ?_ hdb)
    refine PySem.W.callWith_KW (h₀ := X.base) I.ok.mod.kin hk hall (thn (pt.run pos pins s σ H _ I h) fun us s1 ⟨vs, H1, I1, r, q⟩ => ?_) hpl he
    refine thn (pu.run pos pins s1 σ H1 _ I1 q) fun ws s2 ⟨zs, H2, I2, rz, hzl, q2⟩ => ⟨I2.kIn, ?_⟩
    rw [hks]
    have r2 : Vals (vs ++ zs) (us ++ ws) := r.append rz
    have hl : (us ++ ws).length = ps.length := by rw [← r2.length]; exact G.len _ _ _ _ q2
    refine wpAny_call (codeAny_mono (run_fnG' (E := fun σ => WE W.w σ) G hgd hr (hb s2 us ws I2.kIn (by rw [← List.length_append]; exact hl) (by rw [← rz.length]; exact hzl)) (passAt tk σ) I2 r2 q2) fun res s' hq => ?_)
    rcases res with e | fl
    · exact hq
    · cases fl
      case ret u => exact hq
      all_goals exact hq.elim
  · unfold eCallX at z
    rw [RP_bnd] at z
    refine qt g hw F ρ σ H _ rel (z.imp (fun as ρ1 z1 => ?_) fun _ _ k => k)
    intro vs F1 H1 e1 rel1 ok1
    rw [RP_bnd] at z1
    refine qu g hw F1 ρ1 σ H1 _ rel1 (z1.imp (fun bs ρ2 z2 => ?_) fun _ _ k => k.ext e1)
    intro zs F2 H2 e2 rel2 ok2
    rw [RP_bnd] at z2
    obtain ⟨hbl, z2⟩ := RP_grd z2
    rw [RP_bnd] at z2
    have ok12 : Paired (AvOk X.K F2 σ) (as ++ bs) (vs ++ zs) := Paired.app (L2.Paired.mapP ok1 fun _ _ k => k.mono e2) ok2
    obtain ⟨ds, F3, ρ3, e3, r3, h3, z3⟩ := aliL_ok rel2 ok12 z2
    rw [RP_bnd] at z3
    obtain ⟨hn, z3⟩ := RP_grd z3
    refine ⟨by rw [← Paired.len ok2]; exact hbl, F3, ds, hn, r3.ext, h3, ?_⟩
    have E3 := (e1.trans e2).trans e3
    unfold kCall at z3
    cases hφ : φ (ds.map Sl.val) with
    | bad => rw [hφ] at z3; exact z3
    | exc er ρ' =>
      rw [hφ] at z3
      intro cls d F' H' c ek
      exact z3 cls d σ F' H' (E3.trans c.e1) (r3.called c) ek
    | ok rv ρ' =>
      rw [hφ] at z3
      intro v F' H' c rk
      exact z3 v F' H' (E3.trans c.e1) (r3.called c) (RvC.ok r3 (r3.called c) (r3.calledO c) rk)

/-! ### a look whose value holds no list of ours: what is made meanwhile is kept, the slots stay as they are -/
def onlyL : VE → Bool
  | [] => true
  | .mu _ (.lst _) :: r => onlyL r
  | .no :: r => onlyL r
  | .val _ :: r => onlyL r
  | .exn :: r => onlyL r
  | _ :: _ => false
mutual
def noL : Dv → Bool
  | .non => true
  | .bl _ => true
  | .int _ => true
  | .str _ => true
  | .cl _ => true
  | .tup xs => noLs xs
  | .ins _ fs => noLf fs
  | _ => false
def noLs : List Dv → Bool
  | [] => true
  | d :: ds => noL d && noLs ds
def noLf : List (Str × Dv) → Bool
  | [] => true
  | d :: ds => noL d.2 && noLf ds
end
theorem noLf_zip : ∀ {ks : List Str} {xs : List Dv}, ks.length = xs.length → noLf (ks.zip xs) = true → noLs xs = true
  | [], [], _, _ => rfl
  | [], _ :: _, l, _ => by simp at l
  | _ :: _, [], l, _ => by simp at l
  | k :: ks, x :: xs, l, h => by
    rw [List.zip_cons_cons, noLf, Bool.and_eq_true] at h
    rw [noLs, h.1, noLf_zip (by simpa using l) h.2]; rfl
/-- what was frozen ahead, and what is new -/
def mix (F H F' : Hp) : Hp := fun b => match F b with
  | some o => some o
  | none => match H b with
    | some _ => none
    | none => F' b
section
variable {K : PySem.W.Frag} {g : Gx} {F F' F2 H H' : Hp} {ρ : VE} {σ : L2.St}
theorem mix_l {b : Addr} {o : HO} (h : F b = some o) : mix F H F' b = some o := by unfold mix; rw [h]
theorem mix_n {b : Addr} (h : F b = none) (h2 : H b = none) : mix F H F' b = F' b := by unfold mix; rw [h, h2]
theorem mix_or {b : Addr} {o : HO} (h : mix F H F' b = some o) : F b = some o ∨ (F b = none ∧ H b = none ∧ F' b = some o) := by
  unfold mix at h
  cases e : F b with
  | some u => rw [e] at h; exact .inl h
  | none =>
    rw [e] at h
    cases e2 : H b with
    | some u => rw [e2] at h; cases h
    | none => rw [e2] at h; exact .inr ⟨rfl, rfl, h⟩
theorem noL_mixes (M : Hp) (hM : ∀ b o, F' b = some o → (∀ vs, o ≠ .lst vs) → (∀ ob u, o = .frz ob u → ∀ vs, u ≠ .lst vs) → M b = some o) {d : Dv} {v : V} (h : Rep K F' d v) : noL d = true → Rep K M d v :=
  Rep.rec (motive_1 := fun d v _ => noL d = true → Rep K M d v) (motive_2 := fun ds vs _ => noLs ds = true → Reps K M ds vs)
    (fun _ => .non) (fun b _ => .bl b) (fun i _ => .int i) (fun x _ => .str x) (fun v _ => .cl v)
    (fun _ _ _ k => by simp [noL] at k) (fun _ _ _ k => by simp [noL] at k)
    (fun h _ ih k => .tup (by
      rcases h with h | h
      · rcases h with h | ⟨ob, h⟩
        · exact .inl (.inl (hM _ _ h (fun vs z => by cases z) (fun _ _ z => by cases z)))
        · exact .inl (.inr ⟨ob, hM _ _ h (fun vs z => by cases z) (fun ob' u z vs y => by cases z; cases y)⟩)
      · exact .inr h) (ih (by simpa [noL] using k)))
    (fun _ _ _ _ k => by simp [noL] at k) (fun _ _ _ _ k => by simp [noL] at k)
    (fun h l _ ih k => .ins (hM _ _ h (fun vs z => by cases z) (fun _ _ z => by cases z)) l (ih (noLf_zip l (by simpa [noL] using k))))
    (fun _ => .nil) (fun _ _ a b k => by
      rw [noLs, Bool.and_eq_true] at k
      exact .cons (a k.1) (b k.2)) h
theorem noLs_mixes (M : Hp) (hM : ∀ b o, F' b = some o → (∀ vs, o ≠ .lst vs) → (∀ ob u, o = .frz ob u → ∀ vs, u ≠ .lst vs) → M b = some o) : ∀ {ds : List Dv} {vs : List V}, Reps K F' ds vs → noLs ds = true → Reps K M ds vs
  | _, _, .nil, _ => .nil
  | _, _, .cons a b, k => by
    rw [noLs, Bool.and_eq_true] at k
    exact .cons (noL_mixes M hM a k.1) (noLs_mixes M hM b k.2)
theorem onlyL_at : ∀ {ρ : VE} {i : Nat} {s : Sl}, onlyL ρ = true → ρ[i]? = some s → (∃ b xs, s = .mu b (.lst xs)) ∨ s = .no ∨ (∃ d, s = .val d) ∨ s = .exn
  | [], i, s, _, e => by simp at e
  | s0 :: r, 0, s, h, e => by
    simp at e
    subst e
    cases s0 with
    | no => exact .inr (.inl rfl)
    | val d => exact .inr (.inr (.inl ⟨d, rfl⟩))
    | exn => exact .inr (.inr (.inr rfl))
    | ot t => cases h
    | mu b d => cases d <;> first | exact .inl ⟨b, _, rfl⟩ | cases h
  | s0 :: r, i + 1, s, h, e => by
    have h' : onlyL r = true := by
      cases s0 with
      | no => exact h
      | val d => exact h
      | exn => exact h
      | ot t => cases h
      | mu b d => cases d <;> first | exact h | cases h
    exact onlyL_at h' (by simpa using e)
/-- the look, and what the frozen part is -/
theorem Rel.lookL (r : Rel K g F ρ σ H) (ho : onlyL ρ = true) : ∃ F2, Ext F F2 ∧ Rel K ⟨H, F2, [], g.held, g.exa⟩ F2 (frzE ρ) σ H ∧ ∀ b o, F2 b = some o → F b = some o ∨ ∃ vs, o = .lst vs := by
  obtain ⟨F2, e2, r2, hl⟩ := r.look'
  refine ⟨F2, e2, r2, fun b o e => ?_⟩
  rcases hl b o e with h | ⟨i, s, x, R, h1, h2, h3, h4⟩
  · exact .inl h
  · right
    rcases onlyL_at ho h1 with ⟨c, xs, rfl⟩ | rfl | ⟨d, rfl⟩ | rfl
    · obtain ⟨p, u, _, a2, a3, rfl, _⟩ := h2
      obtain rfl := List.mem_singleton.mp h3
      rw [h4] at a2; cases a2
      cases a3 with
      | lst h => exact ⟨_, rfl⟩
    · obtain rfl : R = [] := h2
      cases h3
    · obtain ⟨_, rfl⟩ := h2; cases h3
    · obtain ⟨_, rfl⟩ := h2; cases h3
end
def fzL : RV → Bool
  | .d d => noL d
  | .fr (.ins _ fs) => noLf fs
  | .fr (.lst xs) => noLs xs
  | _ => false
def rdL (m : M RV) : M RV := fun ρ => match m (frzE ρ) with
  | .ok r _ => if (onlyL ρ && fzL r) = true then .ok r ρ else m ρ
  | _ => m ρ
theorem SE.rdL {m : M RV} (h : SE X W e m) (hw : WOk W) : SE X W e (rdL m) := by
  obtain ⟨t, p, q⟩ := h.ex
  refine ⟨t, p, fun g hp F ρ σ H Q r z => ?_⟩
  unfold P0.rdL at z
  cases hm : m (frzE ρ) with
  | bad => rw [hm] at z; exact q g hp F ρ σ H Q r z
  | exc er ρ1 => rw [hm] at z; exact q g hp F ρ σ H Q r z
  | ok rv ρ1 =>
    rw [hm] at z
    dsimp only at z
    split at z
    · rename_i hf
      rw [Bool.and_eq_true] at hf
      obtain ⟨F2, e2, r2, hl⟩ := r.lookL hf.1
      refine q _ (hw g F2 H (r.f0.trans e2) hp) F2 (frzE ρ) σ H Q r2 ?_
      rw [hm]
      intro v F' H' e3 r3 ok
      have keep : ∀ b o, H b = some o → H' b = some o := fun b o k => r3.keep b o k fun i => List.not_mem_nil
      have cp : CP none F H (mix F H F') H' := {
        e1 := fun b o k => mix_l k
        e2 := fun b o k => by
          rcases mix_or k with k | ⟨_, _, k⟩
          · exact keep b o (r.ext b o k)
          · exact r3.ext b o k
        new := fun b k => by
          obtain ⟨o, y⟩ := Option.ne_none_iff_exists'.mp k
          rcases mix_or y with y | ⟨_, y, _⟩
          · exact .inl (by rw [y]; exact Option.some_ne_none _)
          · exact .inr y
        keep := fun b o k _ => keep b o k
        dom := fun b k => by
          obtain ⟨o, y⟩ := Option.ne_none_iff_exists'.mp k
          rw [keep b o y]; exact Option.some_ne_none _ }
      have hM : ∀ b o, F' b = some o → (∀ vs, o ≠ .lst vs) → (∀ ob u, o = .frz ob u → ∀ vs, u ≠ .lst vs) → mix F H F' b = some o := fun b o k n1 n2 => by
        cases y : F b with
        | some u =>
          have := e3 b u (e2 b u y)
          rw [k] at this
          rw [mix_l y, ← this]
        | none =>
          cases y2 : H b with
          | none => rw [mix_n y y2]; exact k
          | some u =>
            exfalso
            rcases r3.new b (by rw [k]; exact Option.some_ne_none _) with w | w
            · obtain ⟨o2, w2⟩ := Option.ne_none_iff_exists'.mp w
              have w3 : F2 b = some o2 := w2
              have := e3 b o2 w3
              rw [k] at this
              cases this
              rcases hl b o w3 with w4 | ⟨vs, rfl⟩
              · rw [y] at w4; cases w4
              · exact n1 vs rfl
            · have w' : H b = none := w
              rw [y2] at w'; cases w'
      cases rv with
      | d d => exact z v (mix F H F') H' cp.e1 (r.called cp) (noL_mixes _ hM ok hf.2)
      | fr d =>
        obtain ⟨p, o, rfl, ro, n1, n2, r4⟩ := ok
        have hp0 := r4.heldAt
        have hn : H p = none := n1
        have mp : mix F H F' p = none := by
          cases y : mix F H F' p with
          | none => rfl
          | some u =>
            rcases mix_or y with y | ⟨_, _, y⟩
            · have := r.ext p u y; rw [hn] at this; cases this
            · rw [hp0.2] at y; cases y
        refine z (.ref p) (mix F H F') H' cp.e1 (r.called cp) (RvC.ok (io := none) r (r.called cp) (r.calledO cp) ⟨p, o, rfl, mp, hp0.1, ?_, hn⟩)
        cases d with
        | ins C fs =>
          cases ro with
          | ins l rs => exact .ins l (noLs_mixes _ hM rs (noLf_zip l hf.2))
        | lst xs =>
          cases ro with
          | lst rs => exact .lst (noLs_mixes _ hM rs hf.2)
        | _ => cases hf.2
      | bor i => cases hf.2
      | ow t => cases hf.2
    · exact q g hp F ρ σ H Q r z
/-! ### a def's contract wherever it runs -/
theorem fnOkF {P : Program} {w : World} {K : PySem.W.Frag} {mg : Str → Option Value} {base : Heap} {x qual : Str} {st : Stmt} {f : Addr} {fd : FuncData} {N ps : List Str} {k n np : Nat} {b : M Fl} (Fd : Fun K x qual st f fd) (S : FnScope N ps (defScope st)) (hp : ps.length = np) (hn : np + n = N.length)
    (hb : ∀ (cdv : Value) (A : Around) (outer : List Env) (s : Shared) (H : Hp) (E : XK), Room k (A.deeper (envOfC qual (defScope st) s.heap.objs.size f cdv)) →
      SSs (cxOf (L2.CX P w) P w K mg base N qual (defScope st) f cdv A outer s H E) ⟨fun cls d _ G => E cls d G, fun _ => True⟩ (defBody st) b) : FnOk P w K mg base (L2.CX P w) (k + 1) f fd ps (spF K mg (runB n b) np) := by
  refine Fd.okX S (spF_len hp) fun cdv A outer s H vs Q E hr hsp => ?_
  obtain ⟨t, ht, hs⟩ := (hb cdv A outer s H E hr).ex
  refine ⟨t, ht, ?_⟩
  obtain ⟨F, ds, h1, h2, h3, h4⟩ := hsp
  refine hs ⟨H, F, [], fun _ => none, none⟩ True.intro F _ _ H _ (rel_start h2 h3 (by rw [h1]; exact hn)) ?_
  refine (RP_runB h4).imp (fun fl ρ z => ?_) fun er ρ z => ?_
  · intro σ' F' H' e r
    cases fl with
    | nx => exact z _ F' H' (r.cp rfl) Rep.non
    | bk => exact z.elim
    | ct => exact z.elim
    | rt rv =>
      intro v rk
      cases rv with
      | d d => exact z v F' H' (r.cp rfl) rk
      | fr d =>
        obtain ⟨p, o, a1, a2, a3, a4, r1⟩ := rk
        exact z v F' H' (r.cp rfl) ⟨p, o, a1, r1.heldAt.2, r1.heldAt.1, a2, a3⟩
      | ow t =>
        obtain ⟨R, a1, a2, a3, r1⟩ := rk
        exact z v F' H' (r.cp rfl) ⟨R, a1, a2, fun a ha => ⟨r1.offC a1 a ha, (a3 a ha).1⟩⟩
      | bor i =>
        rcases z with ⟨d, hi, z⟩ | ⟨d, hi, z⟩ | ⟨t, hi, z⟩
        · obtain ⟨p, o, a1, a2, a3, a4, a5⟩ := r.mu i false d hi
          have rk' : σ'[i]? = some (some v) := rk
          rw [a1] at rk'; cases rk'
          exact z _ F' H' (r.cp rfl) ⟨p, o, rfl, a2, a3, a4, a5 rfl⟩
        rotate_left
        · obtain ⟨u, R, a1, a2, a3, a4, r1⟩ := r.takeOt hi
          have rk' : σ'[i]? = some (some v) := rk
          rw [a1] at rk'; cases rk'
          exact z _ F' H' (r.cp rfl) ⟨R, a2, a3, fun a ha => ⟨r1.offC a2 a ha, (a4 a ha).1⟩⟩
        · obtain ⟨u, a1, a2⟩ := r.val i d hi
          have rk' : σ'[i]? = some (some v) := rk
          rw [a1] at rk'; cases rk'
          exact z _ F' H' (r.cp rfl) a2
  · intro cls d σ' F' H' e r ek
    exact z cls d F' H' (r.cp rfl) ek
end
end P0
end
section
set_option Elab.async false
set_option linter.all false
set_option maxRecDepth 100000
set_option maxHeartbeats 4000000
/-! P0: == of two instances by the class's own def. -/
namespace P0
open PySem PySem.Spec L2
open PyProof.Rows hiding St
open P0 (Ext)

def RIns (K : PySem.W.Frag) (φ : List Sl → R RV) (C : Addr) : Addr → Addr → Hp → Prop := fun a b H => ∃ fs gs ρ, Rep K H (.ins C fs) (.ref a) ∧ Rep K H (.ins C gs) (.ref b) ∧ φ [.val (.ins C fs), .val (.ins C gs)] = .ok (.d (.bl true)) ρ
def pEqI (φ : List Sl → R RV) (C : Addr) : Dv → Dv → M RV
  | .ins C1 fs, .ins C2 gs => fun ρ => if C1 = C ∧ C2 = C then (match φ [.val (.ins C1 fs), .val (.ins C2 gs)] with
    | .ok (.d (.bl true)) _ => .ok (.d (.bl true)) ρ
    | _ => .bad) else .bad
  | _, _ => M.bad
section
variable {X : Cx} {k : Nat} {f C : Addr} {fd : FuncData} {ps : List Str} {φ : List Sl → R RV}
theorem passNo {P : Program} {w : World} (hP : P = X.prog) (hw : w = X.w) : Passes (L2.CX P w) X (fun _ _ _ => False) := by
  intro pins σ H s e s' I c
  obtain ⟨a, B, H', cls, d, _, _, _, _, _, _, _, hW⟩ := c
  exact hW.elim
theorem okEq (Fo : FnOk X.prog X.w X.K X.mg X.base (L2.CX X.prog X.w) k f fd ps (spF X.K X.mg φ 2)) : FnOk X.prog X.w X.K X.mg X.base (L2.CX X.prog X.w) k f fd ps (spEq (RIns X.K φ C)) := by
  have key : ∀ vs H Q E, spEq (RIns X.K φ C) vs H Q E → spF X.K X.mg φ 2 vs H Q E := by
    rintro vs H Q E ⟨a, b, rfl, ⟨fs, gs, ρ, h1, h2, h3⟩, q⟩
    refine ⟨H, [.ins C fs, .ins C gs], rfl, Ext.refl H, .cons h1 (.cons h2 .nil), ?_⟩
    show RP (φ [.val (.ins C fs), .val (.ins C gs)]) _ _
    rw [h3]
    intro v F' H' c rv
    cases rv
    exact q H' fun b o e => c.keep b o e (fun z => by cases z)
  exact ⟨fun vs H Q E h => Fo.len vs H Q E (key vs H Q E h), fun A outer s H args us vs Q E hr e0 hb r h => Fo.run A outer s H args us vs Q E hr e0 hb r (key vs H Q E h)⟩
theorem op_eqI (Fo : FnOk X.prog X.w X.K X.mg X.base (L2.CX X.prog X.w) k f fd ps (spF X.K X.mg φ 2)) (hs : PySem.W.findIn X.K (.ref C) "__eq__" = some (some (.ref f))) (hf : PySem.W.isFn X.K (.ref f) = true) (hb : Binds X.K fd ps []) (hr : Room k X.A) :
    OpR X (compareOp .Eq) (rEqG (DIns C (RIns X.K φ C))) := op_eqG (rcG_ins (E := fun _ _ _ => False) (okEq Fo) hs hf hb (passNo rfl rfl)) hr
theorem Top.repH {K : PySem.W.Frag} {F H : Hp} {d : Dv} {v : V} (e : Ext F H) (h : Top K F H d v) : Rep K H d v := by
  rcases h with h | ⟨p, o, rfl, ho, h⟩
  · exact h.mono e
  · exact (h.mono e).at' ho
theorem p_eqI : P2 X (rEqG (DIns C (RIns X.K φ C))) (pEqI φ C) := by
  intro g F ρ σ H x y dx dy Q W rel tx ty z
  cases dx with
  | ins C1 fs =>
    cases dy with
    | ins C2 gs =>
      unfold pEqI at z
      simp only at z
      split at z
      · rename_i hc
        obtain ⟨rfl, rfl⟩ := hc
        have h1 := tx.repH rel.ext
        have h2 := ty.repH rel.ext
        split at z
        · rename_i ρ' hφ
          obtain ⟨a, da, ka, xa, va, rfl, qa, _⟩ := tx.ins rel.ext
          obtain ⟨b, db, kb, xb, vb, rfl, qb, _⟩ := ty.ins rel.ext
          refine ⟨⟨a, b, da, db, _, _, rfl, rfl, qa, qb, fs, gs, ρ', h1, h2, hφ⟩, fun H' e => ?_⟩
          exact z (.bl true) F H' (Ext.refl F) (rel.grow fun b o k => e b o k) (.bl true)
        · exact z.elim
      · exact z.elim
    | _ => exact z.elim
  | _ => exact z.elim

theorem q_comb : PL X rComb qComb := by
  intro g F ρ σ H vs ds Q W rel h z
  unfold qComb at z
  split at z
  · rw [RP_bnd] at z
    obtain ⟨⟨h1, h2, h3⟩, z⟩ := RP_grd z
    obtain ⟨v, u, rfl, t1, t2⟩ := pd2 h
    obtain rfl := t1.int
    obtain rfl := t2.int
    exact ⟨_, _, rfl, h1, h2, h3, z _ F H (Ext.refl F) rel (.int _)⟩
  · exact z.elim
theorem se_callBf {W : Wh} {x : Str} {p pos : Pos} {e : Expr} {es : List Expr} {id : String} {r : List V → Hp → VK → Prop} {q : List Dv → M RV} {ma : M (List AV)} (hc : CallR X (.builtin id) r) (hp : PL X r q) (hg : Gl X x) (hm : X.mg x = some (.builtin id)) (ha : SA X W (e :: es) ma)
    (hdb : (x == ("__debug__" : Str)) = false := by decide) (he : starEach (e :: es) X.env = (false, eval e X.env) :: starEach es X.env := by rfl) (hpl : (backTo pos (starEach es X.env)).any (·.1) = false := by rfl) :
    SE X W (.Call (.Name x p) (e :: es) [] pos) (eB q ma) := by
  obtain ⟨t, pt, qt⟩ := sL hp ha
  exact ⟨_, pe_callBfun hc hg hm pt hdb he hpl, qt⟩
end
theorem walk_P0c {l : PySem.W.OpenLaw} {n k : Nat} {q : Program} {loose : List Str} {XP : (Str → Option Value) → Heap → Prop} {YP : World → Heap → Prop} {d : DefRec} {K : Params → PySem.W.Frag} {x : Str} {φ : (Nat → Addr) → List Sl → R RV}
    (hn : l.most = some n) (hn2 : n ≤ sizeLine) (hdf : d.params.defaults = []) (hr : Room k callerA) (hY : ∀ (w : World) (h : Heap), YP w h → (K w.params).In h)
    (F : ∀ (w : World) (mg : Str → Option Value) (fa : Addr) (h : Heap), (K w.params).In h → h.Ns mainGlobals mg → mg d.name = some (.ref fa) →
      ∃ (ca : Nat → Addr) (fd : FuncData), (∀ (s : Shared) (u : Value), BindsTo s fd ⟨[u], []⟩ [(x, u)]) ∧ ∀ base : Heap, (K w.params).In base → base.Ns mainGlobals mg → FnG l.prog w (K w.params) mg base k fa fd [x] (spF (K w.params) mg (φ ca) 1))
    (math : ∀ (ca : Nat → Addr) (ns : List Int), ns.length ≤ n → (∀ z ∈ ns, Builtin.Int.intBits z ≤ 1048576) → ∃ ρ, φ ca [Sl.val (.rls (ns.map Dv.int))] = .ok (.d (.bl true)) ρ) :
    PySem.W.WalkO q loose XP YP l.row.toRowW d [] (fun f vs => PySem.call f vs) := by
  refine Att.attach_callB hn hdf fun w s0 s1 mg mb fa o pm cd doc a vs ns Gr Y ho hd hcd hmg hobj hints hlen hbits hg => ?_
  have KX := hY w _ Y
  obtain ⟨ca, fd, hb, hF⟩ := F w mg fa _ KX Gr.T.g hmg
  exact law_callG KX Gr.T.g Gr.T.b Gr.T.builtins Gr.T.nolimit hg hobj hints (Nat.le_trans hlen hn2) hr hF hb (math ca ns hlen hbits)
end P0
end
section
set_option Elab.async false
set_option linter.all false
set_option maxRecDepth 100000
set_option maxHeartbeats 4000000
/-! P0x: a for loop with a yield in its body. -/
namespace P0
open PySem PySem.Spec PyProof.Rows L2 GenW

section
variable {M : Model} {A : Around} {R : GenEnd} {Y : Protocol} {n : Nat} {s₀ s : Shared} {c : Code} {fs : List Frame} {env : Env} {K : Flow → Sem PySem.Fin} {J : Value → Sem PySem.Fin} {gd : Bool → Bool} {lv : List Value → List Value}
theorem seg_For {target iter : Expr} {body orelse : List Stmt} {pos : Pos}
    (h : wpAny M (A.over c fs) (eval iter env) (fun x s₁ => wpAny M (A.over c fs) (pyIter x) (fun it s₂ =>
      ∀ p, Seg M A R Y n s₀ (.forLoop target it body orelse env) (M.den (.forLoop target it body orelse env))
        (.ret (fun r => ((match r with | .ok f => (.pure f : Sem Flow) | .error e => .raise e).onRaise (cameBack env)).wrap K J gd lv) none (gd false) (lv []) c p [] :: fs) s₂)
        (fun e s' => Seg M A R Y n s₀ c (J e) fs s') s₁) (fun e s' => Seg M A R Y n s₀ c (J e) fs s') s)
    (hs : ∀ x, foldedSetIterable iter env x = pure x) :
    Seg M A R Y n s₀ c ((exec (.For target iter body orelse pos) env).wrap K J gd lv) fs s := by
  rw [exec_For]
  refine seg_bind_wrap (wpAny_standAt ?_)
  refine seg_bind_wrap (wpAny_mono h (fun x s1 h1 => ?_) fun _ _ e => e)
  rw [hs x]
  refine seg_bind_wrap (wpAny_pure ?_)
  refine seg_bind_wrap (wpAny_standAt ?_)
  refine seg_bind_wrap (wpAny_holding (wpAny_mono h1 (fun it s2 h2 => ?_) fun _ _ e => e))
  exact seg_call h2
end
section
variable {prog : Program} {w : World} {A : Around} {R : GenEnd} {Y : Protocol} {n : Nat} {s₀ : Shared} {fs : List Frame} {s : Shared} {env : Env}
theorem seg_forLoop {target : Expr} {it : Value} {body : List Stmt}
    (h : wpAny (model prog w) (A.over (.forLoop target it body [] env) fs) (pyNext it) (fun r s₁ => match r with
      | none => Seg (model prog w) A R Y n s₀ (.forLoop target it body [] env) (.pure (.again (.block [] env))) fs s₁
      | some v => wpAny (model prog w) (A.over (.forLoop target it body [] env) fs) (letOwnedTupleGo target it v) (fun _ s₁' =>
          wpAny (model prog w) (A.over (.forLoop target it body [] env) fs) (assign target env v) (fun _ s₂ =>
            Seg (model prog w) A R Y n s₀ (.forLoop target it body [] env) ((execs body env).wrap (fun f => match f with
              | .next | .cont => .pure (.again (.forLoop target it body [] env))
              | .brk => .pure (.done .next)
              | .ret v => .pure (.done (.ret v))) (fun e => (do noteFrame e env; theTreesLotGoes e : Sem Unit).wrap (fun _ => .raise e) .raise id id) id id) fs s₂)
            (fun x s' => Seg (model prog w) A R Y n s₀ (.forLoop target it body [] env) ((do noteFrame x env; theTreesLotGoes x : Sem Unit).wrap (fun _ => .raise x) .raise id id) fs s') s₁')
          (fun x s' => Seg (model prog w) A R Y n s₀ (.forLoop target it body [] env) ((do noteFrame x env; theTreesLotGoes x : Sem Unit).wrap (fun _ => .raise x) .raise id id) fs s') s₁)
      (fun x s' => Seg (model prog w) A R Y n s₀ (.forLoop target it body [] env) ((do noteFrame x env; theTreesLotGoes x : Sem Unit).wrap (fun _ => .raise x) .raise id id) fs s') s) :
    Seg (model prog w) A R Y n s₀ (.forLoop target it body [] env) ((model prog w).den (.forLoop target it body [] env)) fs s := by
  show Seg _ A R Y n s₀ _ ((forTurn target it body [] env).onRaise (fun x => do noteFrame x env; theTreesLotGoes x)) fs s
  rw [Sem.onRaise_eq_wrap]
  unfold forTurn
  have ej : ∀ x s', Seg (model prog w) A R Y n s₀ (.forLoop target it body [] env) ((do noteFrame x env; theTreesLotGoes x : Sem Unit).wrap (fun _ => .raise x) .raise id id) fs s' →
      Seg (model prog w) A R Y n s₀ (.forLoop target it body [] env) ((do noteFrame x env; theTreesLotGoes x : Sem Unit).bind fun _ => .raise x) fs s' := fun x s' hx => by
    rw [Sem.bind_eq_wrap]; exact hx
  refine seg_bind_wrap (wpAny_standAt ?_)
  refine seg_bind_wrap (wpAny_onRaise (wpAny_mono h (fun r s1 h1 => ?_) fun x s' hx => wpAny_standAt (ej x s' hx)))
  cases r with
  | none => exact h1
  | some v =>
    refine seg_bind_wrap (wpAny_mono h1 (fun _ s1' h1' => ?_) fun x s' hx => ej x s' hx)
    refine seg_bind_wrap (wpAny_mono h1' (fun _ s2 h2 => ?_) fun x s' hx => ej x s' hx)
    rw [Sem.bind_eq_wrap', Sem.wrap_wrap]
    rw [Sem.wrap_congr (execs body env) _ _ (K' := fun f => match f with
            | .next | .cont => .pure (.again (.forLoop target it body [] env))
            | .brk => .pure (.done .next)
            | .ret v => .pure (.done (.ret v))) (H' := (fun e => (do noteFrame e env; theTreesLotGoes e : Sem Unit).wrap (fun _ => .raise e) .raise id id))
        (fun f => by cases f <;> rfl)
        (fun e => by first | exact Sem.bind_eq_wrap _ _ | (show (do noteFrame e env; theTreesLotGoes e : Sem Unit).bind (fun _ => .raise e) = _; rw [Sem.bind_eq_wrap]))]
    exact h2
end
end P0
namespace P0
open PySem PySem.Spec PyProof.Rows L2 GenW
section
variable {X : Cx} {tg : Expr}
def tGFor (wi : TI) (g : TG) (tb : TGn) : TGn := fun D ys σ H => wi σ H fun J H1 => ∃ W : Nat → Nat → List V → L2.St → Hp → Prop, (∃ m, W 0 m ys σ H1) ∧ ∀ i m ys σ H, W i m ys σ H →
  (J.stop i H ∧ D.nx ys σ H) ∨ (J.go i H ∧ ∃ N : List V → L2.St → Hp → Prop, (∀ ys' σ' H', N ys' σ' H' → ∃ m', m' < m ∧ W (i + 1) m' ys' σ' H') ∧ ∀ x H', J.yld i H x H' → g x σ H' fun σ2 H2 => tb { D with nx := N, ct := N, bk := D.nx } ys σ2 H2)
theorem gs_for {iter : Expr} {body : List Stmt} {wi : TI} {g : TG} {tb : TGn} {pos : Pos} (hp : PassesOwn (model X.prog X.w) X.A X.env X.xe) (hc : X.calm = true) (hi : PI X tg iter wi) (hg : PG X tg g) (hb : GSs X body tb)
    (hs : ∀ x, foldedSetIterable iter X.env x = pure x := by intro _; rfl) : GS X (.For tg iter body [] pos) (tGFor wi g tb) := by
  refine ⟨fun A S ip R n ys s₀ c fs K J gd lv s σ H D gc hn k hI ht => ?_⟩
  obtain ⟨acc0, cc0, r0, I⟩ := hI
  refine seg_For ?_ hs
  rw [gc.over]
  refine wpAny_mono (hi.run _ s σ H _ I ht) (fun v s1 h1 => wpAny_mono h1 (fun itv s2 h2 => ?_) fun x s' hx => k.exc n s₀ x s' hx) fun x s' hx => k.exc n s₀ x s' hx
  obtain ⟨it, fp, tn, Jt, H2, e, I2, T, st2, f2, W, ⟨m0, w0⟩, turn⟩ := h2
  subst e
  intro p
  have gl := fun (kk : Result → Sem PySem.Fin) => gc_loop (k := kk) (c' := .forLoop tg (.ref it) body [] X.env) (l := lv []) (kp := []) (p := p) gc rfl rfl
  have stat : ∀ {H' : Hp} {acc : Array Value} {cc : Nat}, (∀ b ∈ fp, H' b = none) → ∀ b ∈ fp, FpOk X ((S, lstObj acc cc) :: ip) H' b := fun {H' acc cc} hn b hb => by
    obtain ⟨a1, a2, a3, a4, a5, a6⟩ := f2 b hb
    refine ⟨hn b hb, a2, a3, a4, a5, fun p hp => ?_⟩
    rcases List.mem_append.mp hp with z | z
    · exact a6 p (List.mem_append_left _ z)
    · rcases List.mem_cons.mp z with z | z
      · rw [z]
        exact a6 (S, lstObj acc0 cc0) (List.mem_append_right _ List.mem_cons_self)
      · exact a6 p (List.mem_append_right _ (List.mem_cons_of_mem _ z))
  have fpS : ∀ b ∈ fp, b ≠ S := fun b hb => by
    obtain ⟨_, _, _, _, _, a6⟩ := f2 b hb
    exact Ne.symm (a6 (S, lstObj acc0 cc0) (List.mem_append_right _ List.mem_cons_self))
  have loop : ∀ (m i n : Nat) (ys : List V) (s₀ s : Shared) (σ : L2.St) (H : Hp), n + ys.length = sizeLine → W i m ys σ H → GI X S ip ys σ H s → tn i s.heap → (∀ b ∈ fp, H b = none) →
      Seg (model X.prog X.w) A R (GY X S) n s₀ (.forLoop tg (.ref it) body [] X.env) ((model X.prog X.w).den (.forLoop tg (.ref it) body [] X.env))
        (.ret (fun r => ((match r with | .ok f => (.pure f : Sem Flow) | .error e => .raise e).onRaise (cameBack X.env)).wrap K J gd lv) none (gd false) (lv []) c p [] :: fs) s := by
    intro m
    induction m using Nat.strongRecOn with
    | ind m ih =>
      intro i n ys s₀ s3 σ3 H3 hn w3 hI st3 fr3
      have ee : ∀ (n : Nat) (s₀ : Shared) (x : Value) (s' : Shared), X.xe x s' → Seg (model X.prog X.w) A R (GY X S) n s₀ (.forLoop tg (.ref it) body [] X.env)
          ((do noteFrame x X.env; theTreesLotGoes x : Sem Unit).wrap (fun _ => .raise x) .raise id id)
          (.ret (fun r => ((match r with | .ok f => (.pure f : Sem Flow) | .error e => .raise e).onRaise (cameBack X.env)).wrap K J gd lv) none (gd false) (lv []) c p [] :: fs) s' := fun n s₀ x s' hx => by
        refine seg_wrap ?_
        rw [(gl _).over]
        refine wpAny_bind (wpAny_mono (hp x s' hx) (fun _ s'' hcb => wpAny_theTreesLotGoes ?_) fun y s'' hcb => ?_)
        · exact seg_leaf (.error x) (seg_cameBack gc k hcb)
        · exact seg_leaf (.error y) (seg_cameBack gc k hcb)
      refine seg_forLoop ?_
      rw [(gl _).over]
      obtain ⟨acc, cc, r, I3⟩ := hI
      rcases turn i m ys σ3 H3 w3 with ⟨stop, qn⟩ | ⟨go, N, hN, step⟩
      · refine wpAny_mono (T.done X rfl rfl rfl hc i _ s3 σ3 H3 X.xe I3 (stat fr3) st3 stop) (fun r s4 ⟨hr, I4⟩ => ?_) fun x s' hx => ee n s₀ x s' hx
        subst hr
        refine seg_again rfl ?_
        exact seg_leaf (.ok .next) (k.ok n ys s₀ s4 .next hn ⟨σ3, H3, ⟨acc, cc, ‹_›, I4⟩, qn⟩)
      · refine wpAny_mono (T.item X rfl rfl rfl hc i _ s3 σ3 H3 X.xe I3 (stat fr3) st3 go) (fun r s4 ⟨u, hr, h4⟩ => ?_) fun x s' hx => ee n s₀ x s' hx
        subst hr
        refine wpAny_mono h4 (fun _ s5 ⟨x, H5, I5, r5, y5, st5, fr5⟩ => ?_) fun x s' hx => ee n s₀ x s' hx
        have I5' := I5.pinned (stat fr5) (T.obj _ _ st5)
        refine wpAny_mono (hg.run _ s5 σ3 H5 x u _ I5' r5 (step x H5 y5)) (fun _ s6 ⟨σ6, H6, I6, q6⟩ => ?_) fun x s' hx => ee n s₀ x s' hx
        have gc' : GC X S (ip ++ pinsAt fp s5.heap) A (.forLoop tg (.ref it) body [] X.env) (.ret (fun r => ((match r with | .ok f => (.pure f : Sem Flow) | .error e => .raise e).onRaise (cameBack X.env)).wrap K J gd lv) none (gd false) (lv []) c p [] :: fs) id :=
⟨gc.pn, fun p hp => (List.mem_append.mp hp).elim (fun z => gc.ip p z) fun z => fpS p.1 (of_pinsAt z).1, gc.apart, (gl fun r => ((match r with | .ok f => (.pure f : Sem Flow) | .error e => .raise e).onRaise (cameBack X.env)).wrap K J gd lv).over, (gl fun r => ((match r with | .ok f => (.pure f : Sem Flow) | .error e => .raise e).onRaise (cameBack X.env)).wrap K J gd lv).split, (gl fun r => ((match r with | .ok f => (.pure f : Sem Flow) | .error e => .raise e).onRaise (cameBack X.env)).wrap K J gd lv).guard, rfl⟩
        have out : ∀ {ys' : List V} {σ7 : L2.St} {H7 : Hp} {s7 : Shared}, GI X S (ip ++ pinsAt fp s5.heap) ys' σ7 H7 s7 → GI X S ip ys' σ7 H7 s7 ∧ tn (i + 1) s7.heap ∧ ∀ b ∈ fp, H7 b = none := fun {ys' σ7 H7 s7} ⟨a', c', r', I7⟩ => by
          have I7 : Inv X (((S, lstObj a' c') :: ip) ++ pinsAt fp s5.heap) σ7 H7 s7 := I7
          refine ⟨⟨a', c', r', I7.unpinned⟩, T.keep _ _ _ st5 fun b hb o e => (I7.pin (b, o) (List.mem_append_right _ (List.mem_append_right _ (mem_pinsAt hb e)))).1, fun b hb => ?_⟩
          obtain ⟨o, e, d⟩ := T.obj _ _ st5 b hb
          exact (I7.pin (b, o) (List.mem_append_right _ (List.mem_append_right _ (mem_pinsAt hb e)))).2.1
        refine hb.run A S (ip ++ pinsAt fp s5.heap) R n ys s₀ _ _ _ _ id id s6 σ6 H6 { D with nx := N, ct := N, bk := D.nx } gc' hn ⟨fun n' ys' s₀' s7 f hn' hs => ?_, fun n' s₀' x s7 hx => ee n' s₀' x s7 hx⟩ ⟨acc, cc, ‹_›, I6⟩ q6
        cases f with
        | next =>
          obtain ⟨σ7, H7, I7, n7⟩ := hs
          obtain ⟨o1, o2, o3⟩ := out I7
          obtain ⟨m', hm, w7⟩ := hN ys' σ7 H7 n7
          exact seg_again rfl (ih m' hm (i + 1) n' ys' s₀' s7 σ7 H7 hn' w7 o1 o2 o3)
        | cont =>
          obtain ⟨σ7, H7, I7, n7⟩ := hs
          obtain ⟨o1, o2, o3⟩ := out I7
          obtain ⟨m', hm, w7⟩ := hN ys' σ7 H7 n7
          exact seg_again rfl (ih m' hm (i + 1) n' ys' s₀' s7 σ7 H7 hn' w7 o1 o2 o3)
        | brk =>
          obtain ⟨σ7, H7, I7, n7⟩ := hs
          exact seg_leaf (.ok .next) (k.ok n' ys' s₀' s7 .next hn' ⟨σ7, H7, (out I7).1, n7⟩)
        | ret v =>
          obtain ⟨v7, σ7, H7, I7, r7, n7⟩ := hs
          exact seg_leaf (.ok (.ret v)) (k.ok n' ys' s₀' s7 (.ret v) hn' ⟨v7, σ7, H7, (out I7).1, r7, n7⟩)
  exact loop m0 0 n ys s₀ s2 σ H2 hn w0 ⟨acc0, cc0, r0, I2⟩ st2 fun b hb => (f2 b hb).1
end
end P0
end
section
set_option Elab.async false
set_option linter.all false
set_option maxRecDepth 100000
set_option maxHeartbeats 4000000
/-! P0y: generator defs: statements, then a for that hands out; list(g(..)). -/
namespace P0
open PySem PySem.Spec L2 GenW
open PyProof.Rows hiding St

/-! ### calls of defs that keep their promise under guards too -/
section
variable {X : Cx} {W : Wh} {k : Nat} {f : Addr} {fd : FuncData} {ps : List Str} {sp : Sp} {E : L2.St → XK} {x : Str} {p pos : Pos} {e : Expr} {es : List Expr} {t : TA}
theorem run_fnK {pins : List (Addr × Obj)} {σ : L2.St} {H : Hp} {s : Shared} {Q : VK} {us : List Value} {vs : List V} (Fk : FnOk X.prog X.w X.K X.mg X.base (L2.CX X.prog X.w) k f fd ps sp) (hr : Room k X.A) (hb : Binds X.K fd ps [])
    (hx : PassesAt (L2.CX X.prog X.w) X σ (E σ)) (I : Inv X pins σ H s) (r : Vals vs us) (h : sp vs H Q (E σ)) : wpAny (model X.prog X.w) X.A (call (.ref f) us) (EP X pins σ Q) X.xe s := by
  have b := hb s us I.kIn (by rw [List.append_nil, ← r.length]; exact Fk.len _ _ _ _ h)
  rw [List.append_nil] at b
  have c := Fk.run X.A X.stack s H ⟨us, []⟩ us vs Q (E σ) hr I.env0 b r h
  refine wpAny_call (codeAny_mono c fun res s' hq => ?_)
  rcases res with e | fl
  · exact hx pins H s e s' I hq
  · cases fl
    case ret u => exact I.after hq
    all_goals exact hq.elim
theorem pe_callK (Fk : FnOk X.prog X.w X.K X.mg X.base (L2.CX X.prog X.w) k f fd ps sp) (hr : Room k X.A) (hg : Gl X x) (hm : X.mg x = some (.ref f)) (hk : PySem.W.keepIn X.K (.ref f) = true) (hb : Binds X.K fd ps [])
    (hx : ∀ σ, PassesAt (L2.CX X.prog X.w) X σ (E σ)) (ha : PA X (e :: es) t) (hdb : (x == ("__debug__" : Str)) = false := by decide)
    (he : starEach (e :: es) X.env = (false, eval e X.env) :: starEach es X.env := by rfl) (hpl : (backTo pos (starEach es X.env)).any (·.1) = false := by rfl) : PE X (.Call (.Name x p) (e :: es) [] pos) (tCallS sp E t) := by
  constructor
  intro pins s σ H Q I h
  refine wpAny_Call_Name_kw (ld_glob I hg hm (PySem.W.callWith_K (h₀ := X.base) I.ok.mod.kin hk (thn (ha.run pos pins s σ H _ I h) ?_) he hpl) hdb)
  rintro us s1 ⟨vs, H1, I1, r, q⟩
  exact ⟨I1.kIn, run_fnK Fk hr hb (hx σ) I1 r q⟩
theorem se_callK {n : Nat} {φ : List Sl → R RV} {ma : M (List AV)} (G : FnOk X.prog X.w X.K X.mg X.base (L2.CX X.prog X.w) k f fd ps (spF X.K X.mg φ n)) (hr : Room k X.A) (tk : Takes X W.w) (hm : X.mg x = some (.ref f))
    (hk : PySem.W.keepIn X.K (.ref f) = true) (hb : Binds X.K fd ps []) (hg : Gl X x) (ha : SA X W (e :: es) ma) (hdb : (x == ("__debug__" : Str)) = false := by decide)
    (he : starEach (e :: es) X.env = (false, eval e X.env) :: starEach es X.env := by rfl) (hpl : (backTo pos (starEach es X.env)).any (·.1) = false := by rfl) : SE X W (.Call (.Name x p) (e :: es) [] pos) (eCall n φ ma) := by
  obtain ⟨t, pt, qt⟩ := ha.ex
  refine ⟨_, pe_callK G hr hg hm hk hb (fun σ => passAt tk σ) pt hdb he hpl, fun g hw F ρ σ H Q rel z => ?_⟩
  unfold eCall at z
  rw [RP_bnd] at z
  refine qt g hw F ρ σ H _ rel (z.imp (fun as ρ1 z1 => ?_) fun _ _ k => k)
  intro vs F1 H1 e1 rel1 ok1
  rw [RP_bnd] at z1
  obtain ⟨ds, F2, ρ2, e2, r2, h2, z2⟩ := aliL_ok rel1 ok1 z1
  rw [RP_bnd] at z2
  obtain ⟨hn, z2⟩ := RP_grd z2
  refine ⟨F2, ds, hn, r2.ext, h2, ?_⟩
  · unfold kCall at z2
    cases hφ : φ (ds.map Sl.val) with
    | bad => rw [hφ] at z2; exact z2
    | exc er ρ' =>
      rw [hφ] at z2
      intro cls d F' H' c ek
      exact z2 cls d σ F' H' ((e1.trans e2).trans c.e1) (r2.called c) ek
    | ok rv ρ' =>
      rw [hφ] at z2
      intro v F' H' c rk
      exact z2 v F' H' ((e1.trans e2).trans c.e1) (r2.called c) (RvC.ok r2 (r2.called c) (r2.calledO c) rk)
end

/-! ### a generator's body -/
def okY (X : Cx) (g : Gx) (F : Hp) (D : GEnds) (ys : List V) (outs : List Dv) (ρ' : VE) : Prop := ∀ σ' F' H' zs, Ext F F' → Rel X.K g F' ρ' σ' H' → Reps X.K F' outs zs → D.nx (ys ++ zs) σ' H'
structure GB (X : Cx) (W : Wh) (sts : List Stmt) (m : M (List Dv)) : Prop where
  ex : ∃ t, GSs X sts t ∧ ∀ g, W.p g → ∀ F ρ σ H (D : GEnds), Rel X.K g F ρ σ H → RP (m ρ) (okY X g F D []) (exE X g F W) → t D [] σ H
def gSeq (m : M Fl) (n : M (List Dv)) : M (List Dv) := do
  let f ← m
  match f with
  | .nx => n
  | _ => M.bad
section
variable {X : Cx} {W : Wh} {st : Stmt} {sts : List Stmt} {tg iter e : Expr} {pos yp p2 : Pos}
theorem gb_cons {m : M Fl} {n : M (List Dv)} (h : SS X W st m) (h' : GB X W sts n) : GB X W (st :: sts) (gSeq m n) := by
  obtain ⟨t, pt, qt⟩ := h.ex
  obtain ⟨u, pu, qu⟩ := h'.ex
  refine ⟨_, gss_cons (gs_ps pt) pu, fun g hw F ρ σ H D rel z => ?_⟩
  unfold gSeq at z
  rw [RP_bnd] at z
  refine qt g hw F ρ σ H _ rel (z.imp (fun f ρ1 z1 => ?_) fun _ _ k => k)
  intro σ1 F1 H1 e1 rel1
  cases f with
  | nx => exact qu g hw F1 ρ1 σ1 H1 D rel1 (z1.imp (fun outs ρ2 k σ' F' H' zs a b c => k σ' F' H' zs (e1.trans a) b c) fun _ _ k => k.ext e1)
  | bk => exact z1.elim
  | ct => exact z1.elim
  | rt r => exact z1.elim
def avd : AV → M Dv
  | .d d => pure d
  | _ => M.bad
def forY (mg : Dv → M Unit) (me : M AV) : List Dv → M (List Dv)
  | [] => pure []
  | d :: ds => do
    mg d
    let a ← me
    let x ← avd a
    let r ← forY mg me ds
    pure (x :: r)
def gFor (mi : M (List Dv)) (mg : Dv → M Unit) (me : M AV) : M (List Dv) := do
  let ds ← mi
  M.grd (ds.length < sizeLine)
  forY mg me ds
theorem gb_for {sl : List Nat} {mi : M (List Dv)} {mg : Dv → M Unit} {me : M AV} (hi : SI X W tg iter mi) (hg : SG X tg sl mg) (hb : SF X W e me) (hp : PassesOwn (model X.prog X.w) X.A X.env X.xe) (hc : X.calm = true)
    (hco : X.env.scope.isCoroutine = false := by rfl) (hin : interactive X.env = false := by rfl)
    (hs : ∀ x, foldedSetIterable iter X.env x = pure x := by intro _; rfl) : GB X W [.For tg iter [.Expr (.Yield (some e) yp) p2] [] pos] (gFor mi mg me) := by
  obtain ⟨w, pw, qw⟩ := hi.ex
  obtain ⟨t, pt, qt⟩ := hg.ex
  obtain ⟨u, pu, qu⟩ := hb.ex
  refine ⟨_, gss_cons (gs_for hp hc pw pt (gss_cons (gs_yield pu hco hin) gss_nil) hs) gss_nil, fun g hw F ρ σ H D rel z => ?_⟩
  unfold gFor at z
  rw [RP_bnd] at z
  refine qw g hw F ρ σ H _ rel (z.imp (fun ds ρ1 z1 => ?_) fun _ _ k => k)
  intro J F1 H1 e1 rel1 it
  rw [RP_bnd] at z1
  obtain ⟨hlen, z1⟩ := RP_grd z1
  let I : Nat → Nat → List V → L2.St → Hp → Prop := fun i m ys σ H => m + i = ds.length ∧ i ≤ ds.length ∧ ys.length = i ∧ ∃ F2 ρ2 outs, Ext F1 F2 ∧ Rel X.K g F2 ρ2 σ H ∧ Reps X.K F2 outs ys ∧
    RP (forY mg me (ds.drop i) ρ2) (fun r ρ' => okY X g F D [] (outs ++ r) ρ') (exE X g F W)
  refine ⟨I, ⟨ds.length, rfl, Nat.zero_le _, rfl, F1, ρ1, [], Ext.refl F1, rel1, .nil, z1⟩, ?_⟩
  rintro i m ys σ2 H2 ⟨hm, hi, hy0, F2, ρ2, outs, e2, rel2, hro, z2⟩
  rcases Nat.lt_or_ge i ds.length with hlt | hge
  · right
    refine ⟨it.go i F2 H2 hlt e2 rel2.ext, fun ys' σ' H' => I (i + 1) (m - 1) ys' σ' H', fun ys' σ' H' h' => ⟨m - 1, by omega, h'⟩, ?_⟩
    intro x H3 hy
    have hd : ds[i]? = some ds[i] := List.getElem?_eq_getElem hlt
    rw [List.drop_eq_getElem_cons hlt] at z2
    unfold forY at z2
    rw [RP_bnd] at z2
    have step : ∃ F3, Ext F2 F3 ∧ Rel X.K g F3 ρ2 σ2 H3 ∧ Rep X.K F3 ds[i] x := by
      rcases it.yld i ds[i] F2 H2 x H3 hd e2 rel2.ext hy with ⟨rfl, hr⟩ | ⟨T, ws, es, rfl, hT, rfl, he, hr⟩
      · exact ⟨F2, Ext.refl F2, rel2, hr⟩
      · have hF := rel2.ext.none hT
        refine ⟨_, ext_upd hF, (rel2.allocH hT).freeze (rel2.freeH0 hT) (rel2.noHeld hT), ?_⟩
        rw [he]
        exact .tup (SqT.of upd_same) (hr.mono (ext_upd hF))
    obtain ⟨F3, e3, rel3, hrep⟩ := step
    refine qt g F3 ρ2 σ2 H3 x ds[i] _ _ rel3 hrep (z2.imp (fun _ ρ4 z3 => ?_) fun _ _ k => k)
    intro σ4 F4 H4 e4 rel4 _ _
    rw [RP_bnd] at z3
    have E4 : Ext F F4 := ((e1.trans e2).trans e3).trans e4
    refine ⟨by rw [hy0]; omega, qu g hw F4 ρ4 σ4 H4 _ rel4 (z3.imp (fun a ρ5 z4 => ?_) fun _ _ k => k.ext E4)⟩
    intro v F5 H5 e5 rel5 ok5
    rw [RP_bnd] at z4
    have E5 : Ext F1 F5 := ((e2.trans e3).trans e4).trans e5
    cases a with
    | bor j => exact z4.elim
    | d d0 =>
      have z4 : RP ((forY mg me (ds.drop (i + 1)) >>= fun r => pure (d0 :: r)) ρ5) (fun r ρ' => okY X g F D [] (outs ++ r) ρ') (exE X g F W) := z4
      rw [RP_bnd] at z4
      have rk : Rep X.K F5 d0 v := ok5
      have hro5 : Reps X.K F5 outs ys := hro.mono ((e3.trans e4).trans e5)
      refine ⟨by omega, by omega, by rw [List.length_append, hy0]; rfl, F5, ρ5, outs ++ [d0], E5, rel5, hro5.append (.cons rk .nil), z4.imp (fun r ρ' k => ?_) fun _ _ k => k⟩
      rw [List.append_assoc]
      exact k
  · left
    have hi' : i = ds.length := Nat.le_antisymm hi hge
    subst hi'
    refine ⟨it.stop F2 H2 e2 rel2.ext, ?_⟩
    rw [List.drop_length] at z2
    have z2 : okY X g F D [] (outs ++ []) ρ2 := z2
    rw [List.append_nil] at z2
    exact z2 σ2 F2 H2 ys (e1.trans e2) rel2 hro
end
end P0
end
section
set_option Elab.async false
set_option linter.all false
set_option maxRecDepth 100000
set_option maxHeartbeats 4000000
/-! P0z: a generator def's promise; list(g(..)). -/
namespace P0
open PySem PySem.Spec L2 GenW
open PyProof.Rows hiding St

def spGen (K : PySem.W.Frag) (mg : Str → Option Value) (φ : List Sl → R (List Dv)) (n : Nat) : SpG := fun vs H Q E => ∃ F ds, ds.length = n ∧ Ext F H ∧ Reps K F ds vs ∧
  RP (φ (ds.map Sl.val)) (fun outs _ => ∀ ys F' H', CP none F H F' H' → Reps K F' outs ys → Q ys H') (fun er _ => ∀ cls d F' H', CP none F H F' H' → ErOk K mg F' er cls d → E cls d H')
theorem spGen_len {K : PySem.W.Frag} {mg : Str → Option Value} {φ : List Sl → R (List Dv)} {n : Nat} {ps : List Str} (hn : ps.length = n) : ∀ vs H Q E, spGen K mg φ n vs H Q E → vs.length = ps.length := by
  rintro vs H Q E ⟨F, ds, h1, _, h2, _⟩
  rw [← h2.length, h1, hn]
def runG (n : Nat) (b : M (List Dv)) (sl : List Sl) : R (List Dv) := b (sl ++ List.replicate n Sl.no)
theorem gnF {P : Program} {w : World} {K : PySem.W.Frag} {mg : Str → Option Value} {base : Heap} {x qual : Str} {st : Stmt} {f : Addr} {fd : FuncData} {N ps : List Str} {k n np : Nat} {b : M (List Dv)} (Fd : Fun K x qual st f fd) (S : GScope N ps (defScope st)) (hp : ps.length = np) (hn : np + n = N.length)
    (hb : ∀ (cdv : Value) (A : Around) (outer : List Env) (s : Shared) (H : Hp) (E : XK) (pn : List (Addr × Obj)), Room k (A.deeper (envOfC qual (defScope st) s.heap.objs.size f cdv)) →
      GB (gcxOf P w K mg base N qual (defScope st) f cdv A outer s H E pn) ⟨fun cls d _ G => E cls d G, fun _ => True⟩ (defBody st) b) : GFn P w K mg base (k + 1) f fd ps (spGen K mg (runG n b) np) := by
  obtain ⟨oc, od, kV, doc, pm, an, cdv, ct, osl, rfl, lk, hcd⟩ := Fd.ex
  refine gfn_of lk hcd S (spGen_len hp) fun A outer s H vs Q E pn hr hsp => ?_
  obtain ⟨t, ht, hs⟩ := (hb cdv A outer s H E pn hr).ex
  refine ⟨t, ht, ?_⟩
  obtain ⟨F, ds, h1, h2, h3, h4⟩ := hsp
  refine hs ⟨H, F, [], fun _ => none, none⟩ True.intro F _ _ H _ (rel_start h2 h3 (by rw [h1]; exact hn)) ?_
  refine RP.imp (show RP (b (ds.map Sl.val ++ List.replicate n Sl.no)) _ _ from h4) (fun outs ρ z => ?_) fun er ρ z => ?_
  · intro σ' F' H' zs e r rz
    exact z zs F' H' (r.cp rfl) rz
  · intro cls d σ' F' H' e r ek
    exact z cls d F' H' (r.cp rfl) ek

/-! ### list(g(e, ..)) -/
section
variable {X : Cx} {W : Wh} {k : Nat} {f : Addr} {fd : FuncData} {ps : List Str} {x nm : Str} {p pos pos' p' : Pos} {e : Expr} {es : List Expr}
theorem pe_listG' {ge : Expr} {tg : L2.St → TGen} {E : L2.St → XK} (h : ∀ σ, PGen X k ge (tg σ) (E σ)) (hx : ∀ σ, PassesAt (L2.CX X.prog X.w) X σ (E σ)) (hns : ∀ σ, NoStop X.K (E σ)) (hr : Room (k + 3) X.A) (hg : Gl X nm) (hmg : X.mg nm = none) (hv : bootBuiltins nm = some (.type "list")) (hnm : nm ≠ "__name__" := by decide) (hdb : (nm == ("__debug__" : Str)) = false := by decide)
    (he : starEach [ge] X.env = (false, eval ge X.env) :: starEach [] X.env := by rfl) : PE X (.Call (.Name nm p) [ge] [] pos) (fun σ H Q => tg σ σ H fun out H2 => ∀ p, H2 p = none → Q (.ref p) (upd H2 p (.lst out))) := by
  refine ⟨fun pins s σ H Q I hq => ?_⟩
  refine wpAny_Call_Name_kw (ld_blt I hg hmg hv ?_ hnm hdb)
  refine PyProof.Rows.callWith_type1 ?_ he rfl
  rw [he]
  show wpAny _ _ (spliced ((false, eval ge X.env) :: backTo pos (starEach [] X.env))) _ _ s
  refine Calls.spliced_cons (thn ((h σ).run pins s σ H _ I hq) fun u s1 ⟨H1, sc, ex, I1, hex, hG⟩ => ?_)
  refine Calls.spliced_nil ?_
  have hsz : sc.heap.objs.size ≤ s1.heap.objs.size := by
    obtain ⟨a, g, c, _, h1, h2, _⟩ := hG
    exact Nat.le_trans h1 (Nat.le_of_lt h2)
  refine call_list_new hr I1.ok.frames hG (fun S s' acc c H' ys q0 q1 q2 hl q3 q4 q5 q6 q7 q8 => ?_) fun e s' g hc => ?_
  · exact ⟨.ref S, upd H' S (.lst ys), I1.drained (Nat.le_trans hsz q0) hl q1 q2 hex q3 q4 q5 q6 q7, rfl, q8 S q7⟩
  · have kin : X.K.In s'.heap := by
      obtain ⟨a, B, H', cls, d, _, fl, _, ub, _⟩ := id hc
      refine I1.ok.mod.kin.keeps fun b o eb => fl.1 b o (ub.keep b o (I1.bs b o eb).1 (I1.bs b o eb).2 fun hm => ?_)
      rcases List.mem_cons.mp (I1.stkSub b hm) with z | z
      · have h1 := Heap.lt_size eb
        have h2 := Nat.le_trans I1.ok.bsz I1.ok.above
        rw [z] at h1
        exact absurd (Nat.lt_of_lt_of_le h1 h2) (Nat.lt_irrefl _)
      · exact I1.ok.nofr eb z
    refine ⟨notStop_of (hns σ) kin hc, hx σ pins H1 sc e _ I1 ?_⟩
    · obtain ⟨a, B, H', cls, d, z1, fl, z2, ub, z3, z4, z5, z6⟩ := hc
      exact ⟨a, B, H', cls, d, z1, fl, z2, ub, z3, z4, allBare_setGen z5 rfl, z6⟩
/-- no class of these ends an iterator -/
def NoSt (K : PySem.W.Frag) (mg : Str → Option Value) (ns : List Str) : Prop := ∀ n ∈ ns, ∀ C, mg n = some (.ref C) → PySem.W.subIn K (.ref C) (.type "StopIteration") = some false
def kGen (ns : List Str) (r : R (List Dv)) : M RV := fun ρ => match r with
  | .ok outs _ => .ok (.fr (.lst outs)) ρ
  | .exc er _ => if er.name ∈ ns then .exc er ρ else .bad
  | .bad => .bad
def eListG (ns : List Str) (n : Nat) (φ : List Sl → R (List Dv)) (ma : M (List AV)) : M RV := do
  let as ← ma
  let ds ← aliL as
  M.grd (ds.length = n)
  kGen ns (φ (ds.map Sl.val))
theorem se_listG {n : Nat} {φ : List Sl → R (List Dv)} {ma : M (List AV)} {ns : List Str} (G : GFn X.prog X.w X.K X.mg X.base k f fd ps (spGen X.K X.mg φ n)) (hst : NoSt X.K X.mg ns) (hr : Room (k + 3) X.A) (hr0 : Room k X.A) (tk : Takes X W.w) (hm : X.mg x = some (.ref f))
    (hk : PySem.W.keepIn X.K (.ref f) = true) (hb : Binds X.K fd ps []) (hg : Gl X x) (ha : SA X W (e :: es) ma) (hgl : Gl X nm) (hmg : X.mg nm = none) (hv : bootBuiltins nm = some (.type "list")) (hdb : (x == ("__debug__" : Str)) = false := by decide)
    (hnm : nm ≠ "__name__" := by decide) (hdb2 : (nm == ("__debug__" : Str)) = false := by decide)
    (he : starEach (e :: es) X.env = (false, eval e X.env) :: starEach es X.env := by rfl) (hpl : (backTo pos' (starEach es X.env)).any (·.1) = false := by rfl)
    (he2 : starEach [.Call (.Name x p') (e :: es) [] pos'] X.env = (false, eval (.Call (.Name x p') (e :: es) [] pos') X.env) :: starEach [] X.env := by rfl) :
    SE X W (.Call (.Name nm p) [.Call (.Name x p') (e :: es) [] pos'] [] pos) (eListG ns n φ ma) := by
  obtain ⟨t, pt, qt⟩ := ha.ex
  let E : L2.St → XK := fun σ cls d H => W.w cls d σ H ∧ PySem.W.subIn X.K cls (.type "StopIteration") = some false
  have hx : ∀ σ, PassesAt (L2.CX X.prog X.w) X σ (E σ) := fun σ pins H s e s' I c => tk e s' (XE.of_call I (fun _ _ _ h => h.1) c)
  have hns : ∀ σ, NoStop X.K (E σ) := fun σ cls d H h => h.2
  refine ⟨_, pe_listG' (E := E) (fun σ => pgen_call (E := E σ) G hr0 hg hm hk hb .nil pt hdb he hpl) hx hns hr hgl hmg hv hnm hdb2 he2, fun g hw F ρ σ H Q rel z => ?_⟩
  unfold eListG at z
  rw [RP_bnd] at z
  refine qt g hw F ρ σ H _ rel (z.imp (fun as ρ1 z1 => ?_) fun _ _ k => k)
  intro vs F1 H1 e1 rel1 ok1
  rw [RP_bnd] at z1
  obtain ⟨ds, F2, ρ2, e2, r2, h2, z2⟩ := aliL_ok rel1 ok1 z1
  rw [RP_bnd] at z2
  obtain ⟨hn, z2⟩ := RP_grd z2
  refine ⟨F2, ds, hn, r2.ext, by rw [List.append_nil]; exact h2, ?_⟩
  unfold kGen at z2
  cases hφ : φ (ds.map Sl.val) with
  | bad => rw [hφ] at z2; exact z2
  | exc er ρ' =>
    rw [hφ] at z2
    intro cls d F' H' c ek
    by_cases hmem : er.name ∈ ns
    · have z2 : RP (if er.name ∈ ns then (.exc er ρ2 : R RV) else .bad) _ _ := z2
      rw [if_pos hmem] at z2
      refine ⟨z2 cls d σ F' H' ((e1.trans e2).trans c.e1) (r2.called c) ek, ?_⟩
      obtain ⟨C, hC, rfl, _⟩ := ek
      exact hst _ hmem C hC
    · have z2 : RP (if er.name ∈ ns then (.exc er ρ2 : R RV) else .bad) _ _ := z2
      rw [if_neg hmem] at z2
      exact z2.elim
  | ok outs ρ' =>
    rw [hφ] at z2
    intro ys F' H' c rz q hq
    have z2 : RP (.ok (.fr (.lst outs)) ρ2 : R RV) _ _ := z2
    exact z2 (.ref q) F' (upd H' q (.lst ys)) ((e1.trans e2).trans c.e1) ((r2.called c).alloc hq) ((r2.called c).fresh hq (.lst rz))
end
end P0
end
section
set_option Elab.async false
set_option linter.all false
set_option maxRecDepth 100000
set_option maxHeartbeats 4000000
/-! P0ya: comprehensions of two fors. -/
namespace P0
open PySem PySem.Spec L2
open PyProof.Rows hiding St

section
variable {X : Cx} {W : Wh} {iter tg e elt : Expr} {scope : Scope}
def compL2 (vs : List Nat) (mg : Dv → M Unit) (mt : M Bool) (mi1 : M (List Dv)) (mc : List Dv → List Dv → M (List Dv)) : List Dv → List Dv → M (List Dv)
  | [], acc => do
    wipeM vs
    pure acc
  | d :: ds, acc => do
    wipeM vs
    mg d
    let b ← mt
    if b = true then do
      let ds1 ← mi1
      let acc' ← mc ds1 acc
      compL2 vs mg mt mi1 mc ds acc'
    else compL2 vs mg mt mi1 mc ds acc
def eComp2 (vs : List Nat) (mi : M (List Dv)) (mg : Dv → M Unit) (mt : M Bool) (mi1 : M (List Dv)) (vs1 : List Nat) (mg1 : Dv → M Unit) (mt1 : M Bool) (me : M AV) : M RV := do
  let ds ← mi
  let r ← noX (compL2 vs mg mt mi1 (compL vs1 mg1 mt1 me) ds [])
  pure (.fr (.lst r))
theorem compL2_wipe {vs : List Nat} {mg : Dv → M Unit} {mt : M Bool} {mi1 : M (List Dv)} {mc : List Dv → List Dv → M (List Dv)} {ds acc : List Dv} {ρ : VE} {ok : List Dv → VE → Prop} {ex : Er → VE → Prop} (h : RP (compL2 vs mg mt mi1 mc ds acc ρ) ok ex) : vs.any (fun i => isIo (ρ[i]? : Option Sl)) = false := by
  cases ds with
  | nil =>
    unfold compL2 at h
    rw [RP_bnd] at h
    exact (wipeM_ok h).1
  | cons d ds =>
    unfold compL2 at h
    rw [RP_bnd] at h
    exact (wipeM_ok h).1
def cI (X : Cx) (m : M (List Dv)) : TI := fun σ H R => ∃ g F ρ, Rel X.K g F ρ σ H ∧ RP (m ρ) (fun ds ρ' => ∀ J F' H', Ext F F' → Rel X.K g F' ρ' σ H' → ItOk X.K J F' ds → R J H') (exE X g F W0)
theorem SI.can {m : M (List Dv)} (h : SI X W0 tg iter m) : PI X tg iter (cI X m) := by
  obtain ⟨w, pw, qw⟩ := h.ex
  exact ⟨fun pins s σ H R I ⟨g, F, ρ, r, z⟩ => pw.run pins s σ H R I (qw g True.intro F ρ σ H R r z)⟩
theorem comp2_sem {wi : TI} {mi mi1 : M (List Dv)} {sl vs sl1 vs1 : List Nat} {mg mg1 : Dv → M Unit} {mt mt1 : M Bool} {me : M AV} (hs : ∀ i ∈ sl, i ∈ vs) (hs1 : ∀ i ∈ sl1, i ∈ vs1) (g : Gx) (F : Hp) (ρ : VE) (σ : L2.St) (H : Hp) (Q : VK)
    (qi : ∀ R, RP (mi ρ) (fun ds ρ' => ∀ J F' H', Ext F F' → Rel X.K g F' ρ' σ H' → ItOk X.K J F' ds → R J H') (exE X g F W) → wi σ H R)
    (z : RP (eComp2 vs mi mg mt mi1 vs1 mg1 mt1 me ρ) (okE X g F σ Q) (exE X g F W)) : tLc2 wi (cG X sl mg) (cT X mt) (cI X mi1) (cG X sl1 mg1) (cT X mt1) (cE X me) vs vs1 σ H Q := by
  unfold eComp2 at z
  rw [RP_bnd] at z
  refine qi _ (z.imp (fun ds ρ1 z1 => ?_) fun _ _ k => k)
  intro J F1 H1 e1 rel1 it D hD
  rw [RP_bnd] at z1
  have z2 := RP_noX z1
  let Fin : List Dv → VE → Prop := fun a ρ' => RP ((pure (.fr (.lst a)) : M RV) ρ') (okE X g F σ Q) (exE X g F W)
  refine ⟨fun i m H => m + i = ds.length ∧ i ≤ ds.length ∧ ∃ F2 ρ2 acc vsA, Ext F1 F2 ∧ Rel X.K (g.hold (one D (.lst vsA))) F2 (wipeE ρ2 vs) σ H ∧ g.H0 D = none ∧ g.held D = none ∧ Reps X.K F2 acc vsA ∧
    RP (compL2 vs mg mt mi1 (compL vs1 mg1 mt1 me) (ds.drop i) acc ρ2) Fin (fun _ _ => False), ⟨ds.length, ?_⟩, ?_⟩
  · have c := compL2_wipe z2
    exact ⟨rfl, Nat.zero_le _, F1, ρ1, [], [], Ext.refl F1, (rel1.allocH hD).wipeE c, rel1.freeH0 hD, rel1.noHeld hD, .nil, z2⟩
  · rintro i m H2 ⟨hm, hi, F2, ρ2, acc, vsA, e2, rel2, h0, hh, ra, z3⟩
    obtain ⟨hHD, hFD⟩ := rel2.heldAt
    rcases Nat.lt_or_ge i ds.length with hlt | hge
    · right
      refine ⟨it.go i F2 H2 hlt e2 rel2.ext, fun H' => ?_, ?_, ?_⟩
      · exact (m - 1) + (i + 1) = ds.length ∧ i + 1 ≤ ds.length ∧ ∃ F2 ρ2 acc vsA, Ext F1 F2 ∧ Rel X.K (g.hold (one D (.lst vsA))) F2 (wipeE ρ2 vs) σ H' ∧ g.H0 D = none ∧ g.held D = none ∧ Reps X.K F2 acc vsA ∧
          RP (compL2 vs mg mt mi1 (compL vs1 mg1 mt1 me) (ds.drop (i + 1)) acc ρ2) Fin (fun _ _ => False)
      · intro H' h'
        exact ⟨m - 1, by omega, h'⟩
      · intro x H3 hy
        have hd : ds[i]? = some ds[i] := List.getElem?_eq_getElem hlt
        have hdrop : ds.drop i = ds[i] :: ds.drop (i + 1) := List.drop_eq_getElem_cons hlt
        rw [hdrop] at z3
        unfold compL2 at z3
        rw [RP_bnd] at z3
        obtain ⟨cw, z4⟩ := wipeM_ok z3
        -- into the block
        have inB : Rel X.K (g.hold (one D (.lst vsA))) F2 (wipeE ρ2 vs) (wipe σ vs) H2 := rel2.rebase (wipe_length σ vs) fun j s hj hn => wipe_at (wipeE_at hj hn)
        have step : ∃ F3, Ext F2 F3 ∧ Rel X.K (g.hold (one D (.lst vsA))) F3 (wipeE ρ2 vs) (wipe σ vs) H3 ∧ Rep X.K F3 ds[i] x := by
          rcases it.yld i ds[i] F2 H2 x H3 hd e2 rel2.ext hy with ⟨rfl, hr⟩ | ⟨T, ws, es, rfl, hT, rfl, he, hr⟩
          · exact ⟨F2, Ext.refl F2, inB, hr⟩
          · have hF := inB.ext.none hT
            refine ⟨_, ext_upd hF, (inB.allocH hT).freeze (inB.freeH0 hT) (inB.noHeld hT), ?_⟩
            rw [he]
            exact .tup (SqT.of upd_same) (hr.mono (ext_upd hF))
        obtain ⟨F3, e3, rel3, hrep⟩ := step
        rw [RP_bnd] at z4
        refine ⟨_, F3, wipeE ρ2 vs, ds[i], _, rel3, hrep, z4.imp (fun _ ρ4 z5 => ?_) fun _ _ k => k⟩
        intro σ2 F4 H4 e4 rel4 l4 k4
        have agree : ∀ j, j ∉ vs → σ2[j]? = σ[j]? := fun j hj => by rw [k4 j (fun q => hj (hs j q)), wipe_at hj]
        have l2 : σ2.length = σ.length := by rw [l4, wipe_length]
        refine ⟨wipe_congr l2 agree, ?_⟩
        rw [RP_bnd] at z5
        refine ⟨_, F4, ρ4, rel4, z5.imp (fun b ρ5 z6 => ?_) fun _ _ k => k.elim⟩
        intro F5 H5 e5 rel5
        -- behind the turn
        have out : ∀ {F7 : Hp} {ρ7 : VE} {H7 : Hp} {acc' : List Dv} {vsA' : List V}, Rel X.K (g.hold (one D (.lst vsA'))) F7 ρ7 σ2 H7 → Ext F1 F7 → Reps X.K F7 acc' vsA' →
            RP (compL2 vs mg mt mi1 (compL vs1 mg1 mt1 me) (ds.drop (i + 1)) acc' ρ7) Fin (fun _ _ => False) →
            (m - 1) + (i + 1) = ds.length ∧ i + 1 ≤ ds.length ∧ ∃ F2 ρ2 acc vsA, Ext F1 F2 ∧ Rel X.K (g.hold (one D (.lst vsA))) F2 (wipeE ρ2 vs) σ H7 ∧ g.H0 D = none ∧ g.held D = none ∧ Reps X.K F2 acc vsA ∧
              RP (compL2 vs mg mt mi1 (compL vs1 mg1 mt1 me) (ds.drop (i + 1)) acc ρ2) Fin (fun _ _ => False) := by
          intro F7 ρ7 H7 acc' vsA' r7 e7 ra7 z7
          have c7 := compL2_wipe z7
          exact ⟨by omega, by omega, F7, ρ7, acc', vsA', e7, (r7.wipeE c7).rebase l2.symm fun j s hj hn => (agree j (wipeE_at hj hn)).symm, h0, hh, ra7, z7⟩
        have E5 : Ext F1 F5 := ((e2.trans e3).trans e4).trans e5
        cases b with
        | false =>
          simp only [Bool.false_eq_true, if_false] at z6 ⊢
          exact out rel5 E5 (ra.mono ((e3.trans e4).trans e5)) z6
        | true =>
          simp only [if_pos] at z6 ⊢
          rw [RP_bnd] at z6
          refine ⟨_, F5, ρ5, rel5, z6.imp (fun ds1 ρ6 z7 => ?_) fun _ _ k => k.elim⟩
          intro J1 F6 H6 e6 rel6 it1
          rw [RP_bnd] at z7
          have E6 : Ext F1 F6 := E5.trans e6
          let Rest : List Dv → VE → Prop := fun a ρ' => RP (compL2 vs mg mt mi1 (compL vs1 mg1 mt1 me) (ds.drop (i + 1)) a ρ') Fin (fun _ _ => False)
          refine ⟨fun j k H => k + j = ds1.length ∧ j ≤ ds1.length ∧ ∃ F2 ρ2 acc vsA, Ext F6 F2 ∧ Rel X.K (g.hold (one D (.lst vsA))) F2 (wipeE ρ2 vs1) σ2 H ∧ Reps X.K F2 acc vsA ∧
            RP (compL vs1 mg1 mt1 me (ds1.drop j) acc ρ2) Rest (fun _ _ => False), ⟨ds1.length, ?_⟩, ?_⟩
          · have c := compL_wipe z7
            exact ⟨rfl, Nat.zero_le _, F6, ρ6, acc, vsA, Ext.refl F6, rel6.wipeE c, ra.mono (((e3.trans e4).trans e5).trans e6), z7⟩
          · rintro j k Hb ⟨hk, hj, Fb, ρb, accb, vsB, eb, relb, rb, zb⟩
            rcases Nat.lt_or_ge j ds1.length with hlt1 | hge1
            · right
              refine ⟨it1.go j Fb Hb hlt1 eb relb.ext, fun H' => ?_, ?_, ?_⟩
              · exact (k - 1) + (j + 1) = ds1.length ∧ j + 1 ≤ ds1.length ∧ ∃ F2 ρ2 acc vsA, Ext F6 F2 ∧ Rel X.K (g.hold (one D (.lst vsA))) F2 (wipeE ρ2 vs1) σ2 H' ∧ Reps X.K F2 acc vsA ∧
                  RP (compL vs1 mg1 mt1 me (ds1.drop (j + 1)) acc ρ2) Rest (fun _ _ => False)
              · intro H' h'
                exact ⟨k - 1, by omega, h'⟩
              · intro x1 Hc hy1
                have hd1 : ds1[j]? = some ds1[j] := List.getElem?_eq_getElem hlt1
                have hdrop1 : ds1.drop j = ds1[j] :: ds1.drop (j + 1) := List.drop_eq_getElem_cons hlt1
                rw [hdrop1] at zb
                unfold compL at zb
                rw [RP_bnd] at zb
                obtain ⟨cw1, zc⟩ := wipeM_ok zb
                have inC : Rel X.K (g.hold (one D (.lst vsB))) Fb (wipeE ρb vs1) (wipe σ2 vs1) Hb := relb.rebase (wipe_length σ2 vs1) fun j s hj hn => wipe_at (wipeE_at hj hn)
                have step1 : ∃ F3, Ext Fb F3 ∧ Rel X.K (g.hold (one D (.lst vsB))) F3 (wipeE ρb vs1) (wipe σ2 vs1) Hc ∧ Rep X.K F3 ds1[j] x1 := by
                  rcases it1.yld j ds1[j] Fb Hb x1 Hc hd1 eb relb.ext hy1 with ⟨rfl, hr⟩ | ⟨T, ws, es, rfl, hT, rfl, he, hr⟩
                  · exact ⟨Fb, Ext.refl Fb, inC, hr⟩
                  · have hF := inC.ext.none hT
                    refine ⟨_, ext_upd hF, (inC.allocH hT).freeze (inC.freeH0 hT) (inC.noHeld hT), ?_⟩
                    rw [he]
                    exact .tup (SqT.of upd_same) (hr.mono (ext_upd hF))
                obtain ⟨Fc, ec, relc, hrep1⟩ := step1
                rw [RP_bnd] at zc
                refine ⟨_, Fc, wipeE ρb vs1, ds1[j], _, relc, hrep1, zc.imp (fun _ ρd zd => ?_) fun _ _ k => k⟩
                intro σ3 Fd Hd ed reld ld kd
                have agree1 : ∀ j, j ∉ vs1 → σ3[j]? = σ2[j]? := fun j hj => by rw [kd j (fun q => hj (hs1 j q)), wipe_at hj]
                have l3 : σ3.length = σ2.length := by rw [ld, wipe_length]
                refine ⟨wipe_congr l3 agree1, ?_⟩
                rw [RP_bnd] at zd
                refine ⟨_, Fd, ρd, reld, zd.imp (fun b1 ρe ze => ?_) fun _ _ k => k.elim⟩
                intro Fe He ee rele
                have out1 : ∀ {F7 : Hp} {ρ7 : VE} {H7 : Hp} {acc' : List Dv} {vsA' : List V}, Rel X.K (g.hold (one D (.lst vsA'))) F7 ρ7 σ3 H7 → Ext F6 F7 → Reps X.K F7 acc' vsA' →
                    RP (compL vs1 mg1 mt1 me (ds1.drop (j + 1)) acc' ρ7) Rest (fun _ _ => False) →
                    (k - 1) + (j + 1) = ds1.length ∧ j + 1 ≤ ds1.length ∧ ∃ F2 ρ2 acc vsA, Ext F6 F2 ∧ Rel X.K (g.hold (one D (.lst vsA))) F2 (wipeE ρ2 vs1) σ2 H7 ∧ Reps X.K F2 acc vsA ∧
                      RP (compL vs1 mg1 mt1 me (ds1.drop (j + 1)) acc ρ2) Rest (fun _ _ => False) := by
                  intro F7 ρ7 H7 acc' vsA' r7 e7 ra7 z7
                  have c7 := compL_wipe z7
                  exact ⟨by omega, by omega, F7, ρ7, acc', vsA', e7, (r7.wipeE c7).rebase l3.symm fun j s hj hn => (agree1 j (wipeE_at hj hn)).symm, ra7, z7⟩
                have E8 : Ext F6 Fe := ((eb.trans ec).trans ed).trans ee
                cases b1 with
                | false =>
                  simp only [Bool.false_eq_true, if_false] at ze ⊢
                  exact out1 rele E8 (rb.mono ((ec.trans ed).trans ee)) ze
                | true =>
                  simp only [if_pos] at ze ⊢
                  rw [RP_bnd] at ze
                  refine ⟨_, Fe, ρe, rele, ze.imp (fun av ρf zf => ?_) fun _ _ k => k.elim⟩
                  intro y Ff Hf ef relf okf
                  rw [RP_bnd] at zf
                  obtain ⟨dy, Fg, ρg, eg, rg, hg, zg⟩ := ali_ok relf okf zf
                  rw [RP_bnd] at zg
                  obtain ⟨hlen, zh⟩ := RP_grd zg
                  refine ⟨vsB, rg.heldAt.1, by rw [← rb.length]; exact hlen, ?_⟩
                  exact out1 (rg.writeH h0 hh) ((E8.trans ef).trans eg) ((rb.mono ((((ec.trans ed).trans ee).trans ef).trans eg)).append (.cons hg .nil)) zh
            · left
              have hj' : j = ds1.length := Nat.le_antisymm hj hge1
              subst hj'
              refine ⟨it1.stop Fb Hb eb relb.ext, ?_⟩
              rw [List.drop_length] at zb
              unfold compL at zb
              rw [RP_bnd] at zb
              obtain ⟨_, zc⟩ := wipeM_ok zb
              exact out relb (E6.trans eb) rb zc
    · left
      have hi' : i = ds.length := Nat.le_antisymm hi hge
      subst hi'
      refine ⟨it.stop F2 H2 e2 rel2.ext, ?_⟩
      rw [List.drop_length] at z3
      unfold compL2 at z3
      rw [RP_bnd] at z3
      obtain ⟨_, z4⟩ := wipeM_ok z3
      exact z4 (.ref D) F2 H2 (e1.trans e2) (rel2.unhold (one_held hh)) ⟨D, _, rfl, .lst ra, h0, hh, rel2⟩
theorem se_comp2 {iter1 tg1 : Expr} {ifs ifs1 : List Expr} {call : Expr} {vs sl vs1 sl1 : List Nat} {mi mi1 : M (List Dv)} {mg mg1 : Dv → M Unit} {mt mt1 : M Bool} {me : M AV} (hi : SI X W tg iter mi)
    (hg : ∀ (s : Shared) (H : Hp) (C : Addr) (cl : List (Str × Addr)) (fp : List Addr), SG (X.blk s H scope (compEnvC scope cl C X.env) fp) tg sl mg)
    (ht : ∀ (s : Shared) (H : Hp) (C : Addr) (cl : List (Str × Addr)) (fp : List Addr), STs (X.blk s H scope (compEnvC scope cl C X.env) fp) W0 ifs mt)
    (hi1 : ∀ (s : Shared) (H : Hp) (C : Addr) (cl : List (Str × Addr)) (fp : List Addr), SI (X.blk s H scope (compEnvC scope cl C X.env) fp) W0 tg1 iter1 mi1)
    (hg1 : ∀ (s : Shared) (H : Hp) (C : Addr) (cl : List (Str × Addr)) (fp : List Addr), SG (X.blk s H scope (compEnvC scope cl C X.env) fp) tg1 sl1 mg1)
    (ht1 : ∀ (s : Shared) (H : Hp) (C : Addr) (cl : List (Str × Addr)) (fp : List Addr), STs (X.blk s H scope (compEnvC scope cl C X.env) fp) W0 ifs1 mt1)
    (he : ∀ (s : Shared) (H : Hp) (C : Addr) (cl : List (Str × Addr)) (fp : List Addr), SF (X.blk s H scope (compEnvC scope cl C X.env) fp) W0 elt me)
    (hs : ∀ i ∈ sl, i ∈ vs) (hs1 : ∀ i ∈ sl1, i ∈ vs1)
    (pb : ∀ (wi : TI) (g : TG) (tt : TT) (wi1 : TI) (g1 : TG) (tt1 : TT) (te : TE), PI X tg iter wi → (∀ (s : Shared) (H : Hp) (C : Addr) (cl : List (Str × Addr)) (fp : List Addr), PG (X.blk s H scope (compEnvC scope cl C X.env) fp) tg g) →
      (∀ (s : Shared) (H : Hp) (C : Addr) (cl : List (Str × Addr)) (fp : List Addr), PTs (X.blk s H scope (compEnvC scope cl C X.env) fp) ifs tt) →
      (∀ (s : Shared) (H : Hp) (C : Addr) (cl : List (Str × Addr)) (fp : List Addr), PI (X.blk s H scope (compEnvC scope cl C X.env) fp) tg1 iter1 wi1) →
      (∀ (s : Shared) (H : Hp) (C : Addr) (cl : List (Str × Addr)) (fp : List Addr), PG (X.blk s H scope (compEnvC scope cl C X.env) fp) tg1 g1) →
      (∀ (s : Shared) (H : Hp) (C : Addr) (cl : List (Str × Addr)) (fp : List Addr), PTs (X.blk s H scope (compEnvC scope cl C X.env) fp) ifs1 tt1) →
      (∀ (s : Shared) (H : Hp) (C : Addr) (cl : List (Str × Addr)) (fp : List Addr), PE (X.blk s H scope (compEnvC scope cl C X.env) fp) elt te) → PE X call (tLc2 wi g tt wi1 g1 tt1 te vs vs1)) : SE X W call (eComp2 vs mi mg mt mi1 vs1 mg1 mt1 me) := by
  obtain ⟨w, pw, qw⟩ := hi.ex
  refine ⟨_, pb w (cG X sl mg) (cT X mt) (cI X mi1) (cG X sl1 mg1) (cT X mt1) (cE X me) pw (fun s H C cl fp => (hg s H C cl fp).can) (fun s H C cl fp => (ht s H C cl fp).can) (fun s H C cl fp => (hi1 s H C cl fp).can) (fun s H C cl fp => (hg1 s H C cl fp).can) (fun s H C cl fp => (ht1 s H C cl fp).can) (fun s H C cl fp => (he s H C cl fp).can), fun g hw F ρ σ H Q rel z => ?_⟩
  exact comp2_sem (W := W) hs hs1 g F ρ σ H Q (fun R => qw g hw F ρ σ H R rel) z
theorem st_setLc2 (i : Nat) {stm : Stmt} {iter1 tg1 : Expr} {ifs ifs1 : List Expr} {vs sl vs1 sl1 : List Nat} {mi mi1 : M (List Dv)} {mg mg1 : Dv → M Unit} {mt mt1 : M Bool} {me : M AV} (hi : SI X W tg iter mi)
    (hg : ∀ (s : Shared) (H : Hp) (C : Addr) (cl : List (Str × Addr)) (fp : List Addr), SG (X.blk s H scope (compEnvC scope cl C X.env) fp) tg sl mg)
    (ht : ∀ (s : Shared) (H : Hp) (C : Addr) (cl : List (Str × Addr)) (fp : List Addr), STs (X.blk s H scope (compEnvC scope cl C X.env) fp) W0 ifs mt)
    (hi1 : ∀ (s : Shared) (H : Hp) (C : Addr) (cl : List (Str × Addr)) (fp : List Addr), SI (X.blk s H scope (compEnvC scope cl C X.env) fp) W0 tg1 iter1 mi1)
    (hg1 : ∀ (s : Shared) (H : Hp) (C : Addr) (cl : List (Str × Addr)) (fp : List Addr), SG (X.blk s H scope (compEnvC scope cl C X.env) fp) tg1 sl1 mg1)
    (ht1 : ∀ (s : Shared) (H : Hp) (C : Addr) (cl : List (Str × Addr)) (fp : List Addr), STs (X.blk s H scope (compEnvC scope cl C X.env) fp) W0 ifs1 mt1)
    (he : ∀ (s : Shared) (H : Hp) (C : Addr) (cl : List (Str × Addr)) (fp : List Addr), SF (X.blk s H scope (compEnvC scope cl C X.env) fp) W0 elt me)
    (hs : ∀ i ∈ sl, i ∈ vs) (hs1 : ∀ i ∈ sl1, i ∈ vs1)
    (pb : ∀ (wi : TI) (g : TG) (tt : TT) (wi1 : TI) (g1 : TG) (tt1 : TT) (te : TE), PI X tg iter wi → (∀ (s : Shared) (H : Hp) (C : Addr) (cl : List (Str × Addr)) (fp : List Addr), PG (X.blk s H scope (compEnvC scope cl C X.env) fp) tg g) →
      (∀ (s : Shared) (H : Hp) (C : Addr) (cl : List (Str × Addr)) (fp : List Addr), PTs (X.blk s H scope (compEnvC scope cl C X.env) fp) ifs tt) →
      (∀ (s : Shared) (H : Hp) (C : Addr) (cl : List (Str × Addr)) (fp : List Addr), PI (X.blk s H scope (compEnvC scope cl C X.env) fp) tg1 iter1 wi1) →
      (∀ (s : Shared) (H : Hp) (C : Addr) (cl : List (Str × Addr)) (fp : List Addr), PG (X.blk s H scope (compEnvC scope cl C X.env) fp) tg1 g1) →
      (∀ (s : Shared) (H : Hp) (C : Addr) (cl : List (Str × Addr)) (fp : List Addr), PTs (X.blk s H scope (compEnvC scope cl C X.env) fp) ifs1 tt1) →
      (∀ (s : Shared) (H : Hp) (C : Addr) (cl : List (Str × Addr)) (fp : List Addr), PE (X.blk s H scope (compEnvC scope cl C X.env) fp) elt te) → PS X stm (tAsg (tLc2 wi g tt wi1 g1 tt1 te vs vs1) (gName i))) : SS X W stm (sSet i (eComp2 vs mi mg mt mi1 vs1 mg1 mt1 me)) := by
  obtain ⟨w, pw, qw⟩ := hi.ex
  refine ⟨_, pb w (cG X sl mg) (cT X mt) (cI X mi1) (cG X sl1 mg1) (cT X mt1) (cE X me) pw (fun s H C cl fp => (hg s H C cl fp).can) (fun s H C cl fp => (ht s H C cl fp).can) (fun s H C cl fp => (hi1 s H C cl fp).can) (fun s H C cl fp => (hg1 s H C cl fp).can) (fun s H C cl fp => (ht1 s H C cl fp).can) (fun s H C cl fp => (he s H C cl fp).can), set_sem fun g hw F ρ σ H Q rel z => ?_⟩
  exact comp2_sem (W := W) hs hs1 g F ρ σ H Q (fun R => qw g hw F ρ σ H R rel) z
end
end P0
end
section
set_option Elab.async false
set_option linter.all false
set_option maxRecDepth 100000
set_option maxHeartbeats 4000000
/-! P0yb: constants of the top that are data. -/
namespace P0
open PySem PySem.Spec L2
open PyProof.Rows hiding St

mutual
/-- the value stands for this datum in what the top has written -/
def kdat (K : PySem.W.Frag) : Dv → Value → Bool
  | .non, .none => true
  | .bl b, .bool c => b == c
  | .int i, .int j _ => i == j
  | .str x, .str y _ => x == y
  | .tup ds, .ref a => match K.lookup a with
    | some o => decide (o.cls = .type "tuple") && (match o.data with
      | .seq its _ => decide (its.size ≤ 1000) && kdats K ds its.toList
      | _ => false)
    | none => false
  | _, _ => false
def kdats (K : PySem.W.Frag) : List Dv → List Value → Bool
  | [], [] => true
  | d :: ds, u :: us => kdat K d u && kdats K ds us
  | _, _ => false
end
mutual
theorem kdat_ok {K : PySem.W.Frag} : ∀ (d : Dv) (u : Value), kdat K d u = true → ∃ v, RelV v u ∧ ∀ F, Rep K F d v
  | .non, .none, _ => ⟨.non, rfl, fun _ => .non⟩
  | .bl b, .bool c, h => by
    have : b = c := by simpa [kdat] using h
    subst this
    exact ⟨.bl b, rfl, fun _ => .bl b⟩
  | .int i, .int j t, h => by
    have : i = j := by simpa [kdat] using h
    subst this
    exact ⟨.int i, ⟨t, rfl⟩, fun _ => .int i⟩
  | .str x, .str y t, h => by
    have : x = y := by simpa [kdat] using h
    subst this
    exact ⟨.str x, ⟨t, rfl⟩, fun _ => .str x⟩
  | .tup ds, .ref a, h => by
    unfold kdat at h
    cases hl : K.lookup a with
    | none => rw [hl] at h; simp at h
    | some o =>
      rw [hl] at h
      simp only [Bool.and_eq_true, decide_eq_true_eq] at h
      obtain ⟨hc, h⟩ := h
      cases hd : o.data with
      | seq its n =>
        rw [hd] at h
        simp only [Bool.and_eq_true, decide_eq_true_eq] at h
        obtain ⟨hs, h⟩ := h
        obtain ⟨vs, r, k⟩ := kdats_ok ds its.toList h
        exact ⟨.ref a, rfl, fun F => .tup (.inr ⟨o, its, n, hl, hc, hd, Nat.le_trans hs (by decide), r⟩) (k F)⟩
      | _ => rw [hd] at h; simp at h
theorem kdats_ok {K : PySem.W.Frag} : ∀ (ds : List Dv) (us : List Value), kdats K ds us = true → ∃ vs, Vals vs us ∧ ∀ F, Reps K F ds vs
  | [], [], _ => ⟨[], .nil, fun _ => .nil⟩
  | d :: ds, u :: us, h => by
    unfold kdats at h
    rw [Bool.and_eq_true] at h
    obtain ⟨v, r, k⟩ := kdat_ok d u h.1
    obtain ⟨vs, rs, ks⟩ := kdats_ok ds us h.2
    exact ⟨v :: vs, .cons r rs, fun F => .cons (k F) (ks F)⟩
end
/-- a name of the top that is such a datum -/
def KDat (K : PySem.W.Frag) (mg : Str → Option Value) (x : Str) (d : Dv) : Prop := ∃ u v, mg x = some u ∧ RelV v u ∧ ∀ F, Rep K F d v
theorem KDat.of {K : PySem.W.Frag} {mg : Str → Option Value} {x : Str} {d : Dv} {u : Value} (h : mg x = some u) (k : kdat K d u = true) : KDat K mg x d := by
  obtain ⟨v, r, q⟩ := kdat_ok d u k
  exact ⟨u, v, h, r, q⟩
theorem se_globD {X : Cx} {W : Wh} {x : Str} {d : Dv} {pos : Pos} (hg : Gl X x) (h : KDat X.K X.mg x d) (hd : (x == ("__debug__" : Str)) = false := by decide) : SE X W (.Name x pos) (eC d) := by
  obtain ⟨u, v, hm, r, q⟩ := h
  exact se_glob hg hm r q hd
end P0
end
section
set_option Elab.async false
set_option linter.all false
set_option maxRecDepth 100000
set_option maxHeartbeats 4000000
namespace K41
open PySem PySem.Spec L2 P0
open PyProof.Rows hiding St
def topOf (i : Nat) : Stmt := PySem.Challenge.pw_rimmachines_k41_stair_words.main.body.getD i (.Pass ⟨0, 0, 0, 0⟩)
def inCls (s : Stmt) (j : Nat) : Stmt := match s with
  | .ClassDef _ _ _ b .. => b.getD j (.Pass ⟨0, 0, 0, 0⟩)
  | s => s
def exCls : List Str := ["RimmachinesError", "NumberError", "SizeError", "LaneError", "WordError"]
def exPrs : List (Str × Str × Bool) := [("RimmachinesError", "RimmachinesError", true), ("RimmachinesError", "NumberError", false), ("RimmachinesError", "SizeError", false), ("RimmachinesError", "LaneError", false), ("RimmachinesError", "WordError", false), ("NumberError", "RimmachinesError", true), ("NumberError", "NumberError", true), ("NumberError", "SizeError", false), ("NumberError", "LaneError", false), ("NumberError", "WordError", false), ("SizeError", "RimmachinesError", true), ("SizeError", "NumberError", false), ("SizeError", "SizeError", true), ("SizeError", "LaneError", false), ("SizeError", "WordError", false), ("LaneError", "RimmachinesError", true), ("LaneError", "NumberError", false), ("LaneError", "SizeError", false), ("LaneError", "LaneError", true), ("LaneError", "WordError", false), ("WordError", "RimmachinesError", true), ("WordError", "NumberError", false), ("WordError", "SizeError", false), ("WordError", "LaneError", false), ("WordError", "WordError", true)]
def exFld : List (Str × Str) := [("LaneError", "at"), ("NumberError", "number"), ("SizeError", "count"), ("WordError", "at")]
abbrev s_check_number : Stmt := topOf 9
abbrev N_check_number : List Str := ["number", "least", "most"]
theorem sc_check_number : FnScope N_check_number ["number", "least", "most"] (defScope s_check_number) := ⟨rfl, rfl, rfl, by decide +kernel, rfl, by decide +kernel, by decide +kernel⟩
abbrev s_check_size : Stmt := topOf 10
abbrev N_check_size : List Str := ["count", "least", "most"]
theorem sc_check_size : FnScope N_check_size ["count", "least", "most"] (defScope s_check_size) := ⟨rfl, rfl, rfl, by decide +kernel, rfl, by decide +kernel, by decide +kernel⟩
abbrev s_check_letters : Stmt := topOf 12
abbrev N_check_letters : List Str := ["word", "letters", "at", "letter"]
theorem sc_check_letters : FnScope N_check_letters ["word", "letters"] (defScope s_check_letters) := ⟨rfl, rfl, rfl, by decide +kernel, rfl, by decide +kernel, by decide +kernel⟩
abbrev s_check_balance : Stmt := topOf 13
abbrev N_check_balance : List Str := ["word", "up", "down", "height", "at", "letter"]
theorem sc_check_balance : FnScope N_check_balance ["word", "up", "down"] (defScope s_check_balance) := ⟨rfl, rfl, rfl, by decide +kernel, rfl, by decide +kernel, by decide +kernel⟩
abbrev s_check_brackets : Stmt := topOf 16
abbrev N_check_brackets : List Str := ["word", "least", "most"]
theorem sc_check_brackets : FnScope N_check_brackets ["word", "least", "most"] (defScope s_check_brackets) := ⟨rfl, rfl, rfl, by decide +kernel, rfl, by decide +kernel, by decide +kernel⟩
abbrev s_heights_between : Stmt := topOf 17
abbrev N_heights_between : List Str := ["word", "before", "after", "heights", "height", "last", "letter"]
theorem sc_heights_between : FnScope N_heights_between ["word", "before", "after"] (defScope s_heights_between) := ⟨rfl, rfl, rfl, by decide +kernel, rfl, by decide +kernel, by decide +kernel⟩
abbrev s_bracket_count : Stmt := topOf 18
abbrev N_bracket_count : List Str := ["half"]
theorem sc_bracket_count : FnScope N_bracket_count ["half"] (defScope s_bracket_count) := ⟨rfl, rfl, rfl, by decide +kernel, rfl, by decide +kernel, by decide +kernel⟩
abbrev s_bracket_words : Stmt := topOf 19
abbrev N_bracket_words : List Str := ["half", "begun", "left", "word", "_", "height", "letter", "step"]
theorem sc_bracket_words : GScope N_bracket_words ["half"] (defScope s_bracket_words) := ⟨rfl, rfl, rfl, by decide +kernel, rfl, by decide +kernel, by decide +kernel⟩
abbrev s_tops : Stmt := topOf 20
abbrev N_tops : List Str := ["word"]
theorem sc_tops : FnScope N_tops ["word"] (defScope s_tops) := ⟨rfl, rfl, rfl, by decide +kernel, rfl, by decide +kernel, by decide +kernel⟩
abbrev s_bottoms : Stmt := topOf 21
abbrev N_bottoms : List Str := ["word"]
theorem sc_bottoms : FnScope N_bottoms ["word"] (defScope s_bottoms) := ⟨rfl, rfl, rfl, by decide +kernel, rfl, by decide +kernel, by decide +kernel⟩
abbrev s_let_shifts : Stmt := topOf 25
abbrev N_let_shifts : List Str := ["rule", "below", "above"]
theorem sc_let_shifts : FnScope N_let_shifts ["rule", "below", "above"] (defScope s_let_shifts) := ⟨rfl, rfl, rfl, by decide +kernel, rfl, by decide +kernel, by decide +kernel⟩
abbrev s_first_not_let : Stmt := topOf 26
abbrev N_first_not_let : List Str := ["rule", "stretches", "at", "beneath", "below", "first", "above", "least", "most"]
theorem sc_first_not_let : FnScope N_first_not_let ["rule", "stretches"] (defScope s_first_not_let) := ⟨rfl, rfl, rfl, by decide +kernel, rfl, by decide +kernel, by decide +kernel⟩
abbrev s_Lane_init : Stmt := inCls (topOf 27) 1
abbrev N_Lane_init : List Str := ["self", "stretches", "first", "length", "at", "start"]
theorem sc_Lane_init : FnScope N_Lane_init ["self", "stretches"] (defScope s_Lane_init) := ⟨rfl, rfl, rfl, by decide +kernel, rfl, by decide +kernel, by decide +kernel⟩
abbrev s_check_staircase : Stmt := topOf 29
abbrev N_check_staircase : List Str := ["lane", "at"]
theorem sc_check_staircase : FnScope N_check_staircase ["lane"] (defScope s_check_staircase) := ⟨rfl, rfl, rfl, by decide +kernel, rfl, by decide +kernel, by decide +kernel⟩
abbrev s_stair_word : Stmt := topOf 30
abbrev N_stair_word : List Str := ["lane", "beneath", "height", "parts", "first", "length", "bottom"]
theorem sc_stair_word : FnScope N_stair_word ["lane"] (defScope s_stair_word) := ⟨rfl, rfl, rfl, by decide +kernel, rfl, by decide +kernel, by decide +kernel⟩
abbrev s_stair_of : Stmt := topOf 31
abbrev N_stair_of : List Str := ["word", "lengths", "first", "stretches", "at", "bottom"]
theorem sc_stair_of : FnScope N_stair_of ["word"] (defScope s_stair_of) := ⟨rfl, rfl, rfl, by decide +kernel, rfl, by decide +kernel, by decide +kernel⟩
abbrev s__law_pool : Stmt := topOf 33
abbrev N__law_pool : List Str := ["script", "cell"]
theorem sc__law_pool : FnScope N__law_pool ["script"] (defScope s__law_pool) := ⟨rfl, rfl, rfl, by decide +kernel, rfl, by decide +kernel, by decide +kernel⟩
abbrev s__law_draw : Stmt := topOf 34
abbrev N__law_draw : List Str := ["pool", "many", "cell"]
theorem sc__law_draw : FnScope N__law_draw ["pool", "many"] (defScope s__law_draw) := ⟨rfl, rfl, rfl, by decide +kernel, rfl, by decide +kernel, by decide +kernel⟩
abbrev s__law_same : Stmt := topOf 35
abbrev N__law_same : List Str := ["told", "due"]
theorem sc__law_same : FnScope N__law_same ["told", "due"] (defScope s__law_same) := ⟨rfl, rfl, rfl, by decide +kernel, rfl, by decide +kernel, by decide +kernel⟩
abbrev s__law_stairs : Stmt := topOf 36
abbrev N__law_stairs : List Str := ["pool", "rows", "first", "length", "found", "k", "step", "end"]
theorem sc__law_stairs : FnScope N__law_stairs ["pool", "rows"] (defScope s__law_stairs) := ⟨rfl, rfl, rfl, by decide +kernel, rfl, by decide +kernel, by decide +kernel⟩
abbrev s__law_word : Stmt := topOf 37
abbrev N__law_word : List Str := ["pool", "half", "word", "high", "opened", "k", "up"]
theorem sc__law_word : FnScope N__law_word ["pool", "half"] (defScope s__law_word) := ⟨rfl, rfl, rfl, by decide +kernel, rfl, by decide +kernel, by decide +kernel⟩
abbrev s__law_heights : Stmt := topOf 38
abbrev N__law_heights : List Str := ["word", "pair", "found", "k"]
theorem sc__law_heights : FnScope N__law_heights ["word", "pair"] (defScope s__law_heights) := ⟨rfl, rfl, rfl, by decide +kernel, rfl, by decide +kernel, by decide +kernel⟩
abbrev s__law_stairs_of : Stmt := topOf 39
abbrev N__law_stairs_of : List Str := ["word", "highs", "lows", "found", "k", "end"]
theorem sc__law_stairs_of : FnScope N__law_stairs_of ["word"] (defScope s__law_stairs_of) := ⟨rfl, rfl, rfl, by decide +kernel, rfl, by decide +kernel, by decide +kernel⟩
abbrev s__law_word_of : Stmt := topOf 40
abbrev N__law_word_of : List Str := ["stairs", "word", "k", "below", "above", "low"]
theorem sc__law_word_of : FnScope N__law_word_of ["stairs"] (defScope s__law_word_of) := ⟨rfl, rfl, rfl, by decide +kernel, rfl, by decide +kernel, by decide +kernel⟩
abbrev s__law_fault : Stmt := topOf 41
abbrev N__law_fault : List Str := ["word", "wrong", "high", "k"]
theorem sc__law_fault : FnScope N__law_fault ["word"] (defScope s__law_fault) := ⟨rfl, rfl, rfl, by decide +kernel, rfl, by decide +kernel, by decide +kernel⟩
abbrev s__law_words : Stmt := topOf 42
abbrev N__law_words : List Str := ["half", "found", "k", "longer", "word", "opened"]
theorem sc__law_words : FnScope N__law_words ["half"] (defScope s__law_words) := ⟨rfl, rfl, rfl, by decide +kernel, rfl, by decide +kernel, by decide +kernel⟩
abbrev s__law_counts : Stmt := topOf 43
abbrev N__law_counts : List Str := ["most", "found", "n", "k"]
theorem sc__law_counts : FnScope N__law_counts ["most"] (defScope s__law_counts) := ⟨rfl, rfl, rfl, by decide +kernel, rfl, by decide +kernel, by decide +kernel⟩
abbrev s__law_read : Stmt := topOf 44
abbrev N__law_read : List Str := ["which", "word", "told", "e"]
theorem sc__law_read : FnScope N__law_read ["which", "word"] (defScope s__law_read) := ⟨rfl, rfl, rfl, by decide +kernel, rfl, by decide +kernel, by decide +kernel⟩
abbrev s__law_due : Stmt := topOf 45
abbrev N__law_due : List Str := ["which", "word", "most", "fault"]
theorem sc__law_due : FnScope N__law_due ["which", "word"] (defScope s__law_due) := ⟨rfl, rfl, rfl, by decide +kernel, rfl, by decide +kernel, by decide +kernel⟩
abbrev s__law_lane_word : Stmt := topOf 46
abbrev N__law_lane_word : List Str := ["lane", "told", "e"]
theorem sc__law_lane_word : FnScope N__law_lane_word ["lane"] (defScope s__law_lane_word) := ⟨rfl, rfl, rfl, by decide +kernel, rfl, by decide +kernel, by decide +kernel⟩
abbrev s__law_list : Stmt := topOf 47
abbrev N__law_list : List Str := ["half", "told", "e"]
theorem sc__law_list : FnScope N__law_list ["half"] (defScope s__law_list) := ⟨rfl, rfl, rfl, by decide +kernel, rfl, by decide +kernel, by decide +kernel⟩
abbrev s__law_count : Stmt := topOf 48
abbrev N__law_count : List Str := ["half", "told", "e"]
theorem sc__law_count : FnScope N__law_count ["half"] (defScope s__law_count) := ⟨rfl, rfl, rfl, by decide +kernel, rfl, by decide +kernel, by decide +kernel⟩
abbrev s__law_lane : Stmt := topOf 49
abbrev N__law_lane : List Str := ["pool", "stairs", "due", "moves", "move", "lane", "back", "row"]
theorem sc__law_lane : FnScope N__law_lane ["pool", "stairs"] (defScope s__law_lane) := ⟨rfl, rfl, rfl, by decide +kernel, rfl, by decide +kernel, by decide +kernel⟩
abbrev s__law_not_let : Stmt := topOf 50
abbrev N__law_not_let : List Str := ["pool", "stairs", "first", "length", "down", "wrong", "step", "above", "due", "twice", "row"]
theorem sc__law_not_let : FnScope N__law_not_let ["pool", "stairs"] (defScope s__law_not_let) := ⟨rfl, rfl, rfl, by decide +kernel, rfl, by decide +kernel, by decide +kernel⟩
abbrev s__law_good : Stmt := topOf 51
abbrev N__law_good : List Str := ["word", "which", "lane"]
theorem sc__law_good : FnScope N__law_good ["word"] (defScope s__law_good) := ⟨rfl, rfl, rfl, by decide +kernel, rfl, by decide +kernel, by decide +kernel⟩
abbrev s__law_bad : Stmt := topOf 52
abbrev N__law_bad : List Str := ["pool", "word", "other", "signs", "sign", "at", "low", "high", "found", "size", "long", "text", "which", "k"]
theorem sc__law_bad : FnScope N__law_bad ["pool", "word", "other"] (defScope s__law_bad) := ⟨rfl, rfl, rfl, by decide +kernel, rfl, by decide +kernel, by decide +kernel⟩
abbrev s__law_lists : Stmt := topOf 53
abbrev N__law_lists : List Str := ["pool", "half", "due", "counts", "at", "far", "bad"]
theorem sc__law_lists : FnScope N__law_lists ["pool"] (defScope s__law_lists) := ⟨rfl, rfl, rfl, by decide +kernel, rfl, by decide +kernel, by decide +kernel⟩
abbrev s_law : Stmt := topOf 54
abbrev N_law : List Str := ["script", "pool", "stairs", "word", "other", "great", "high", "first"]
theorem sc_law : FnScope N_law ["script"] (defScope s_law) := ⟨rfl, rfl, rfl, by decide +kernel, rfl, by decide +kernel, by decide +kernel⟩
abbrev si_NumberError : Stmt := inCls (topOf 4) 0
theorem sci_NumberError : FnScope ["self", "number"] ["self", "number"] (defScope si_NumberError) := ⟨rfl, rfl, rfl, by decide +kernel, rfl, by decide +kernel, by decide +kernel⟩
abbrev si_SizeError : Stmt := inCls (topOf 5) 0
theorem sci_SizeError : FnScope ["self", "count"] ["self", "count"] (defScope si_SizeError) := ⟨rfl, rfl, rfl, by decide +kernel, rfl, by decide +kernel, by decide +kernel⟩
abbrev si_LaneError : Stmt := inCls (topOf 6) 0
theorem sci_LaneError : FnScope ["self", "at"] ["self", "at"] (defScope si_LaneError) := ⟨rfl, rfl, rfl, by decide +kernel, rfl, by decide +kernel, by decide +kernel⟩
abbrev si_WordError : Stmt := inCls (topOf 7) 0
theorem sci_WordError : FnScope ["self", "at"] ["self", "at"] (defScope si_WordError) := ⟨rfl, rfl, rfl, by decide +kernel, rfl, by decide +kernel, by decide +kernel⟩
/-! what the program does -/
def FT (ca : Nat → Addr) : List (Addr × Str) := [(ca 5, "stretches"), (ca 5, "height")]
def L1_heights_between (ca : Nat → Addr) : M Fl :=
  (sSeq (sIf (tAn (toB (b2 pEq (sub (eV 5)) (sub (eV 1)))) (toB (b2 pEq (sub (eV 6)) (sub (eV 2))))) (sExpr (mApp 3 (sub (eV 4)))) sNil)
  (sSeq (sAug (fun i j => i + j) 4 (sub (eIf (toB (b2 pEq (sub (eV 6)) (sub (eC (.str "("))))) (eC (.int 1)) (b1 pNeg (sub (eC (.int 1)))))))
  (sSet 5 (eV 6))))
def b_heights_between (ca : Nat → Addr) : M Fl :=
  (sSeq (sSet 3 (eLst aN))
  (sSeq (sSet 4 (eC (.int 0)))
  (sSeq (sSet 5 (eC (.str "")))
  (sSeq (sFor (iSeq (sub (eV 0))) (setS 6) (L1_heights_between ca))
  (sRet (eV 3))))))
def m_heights_between (ca : Nat → Addr) : List Sl → R RV := runB 4 (b_heights_between ca)
def b_let_shifts (ca : Nat → Addr) : M Fl :=
  (sSeq (sIf (toB (b2 pEq (sub (eV 0)) (sub (eC (.str "rowwise"))))) (sRet (eTup (aC (sub (b2 pSub (sub (eC (.int 1))) (sub (eV 2)))) (aC (sub (b2 pSub (sub (eV 1)) (sub (eC (.int 1))))) aN)))) sNil)
  (sSeq (sIf (toB (b2 pEq (sub (eV 0)) (sub (eC (.str "rooted"))))) (sRet (eTup (aC (sub (eC (.int 0))) (aC (sub (b2 pSub (sub (eV 1)) (sub (eC (.int 1))))) aN)))) sNil)
  (sSeq (sIf (toB (b2 pEq (sub (eV 0)) (sub (eC (.str "leaning"))))) (sRet (eTup (aC (sub (eB qMax (aC (sub (eC (.int 0))) (aC (sub (b2 pSub (sub (eV 1)) (sub (eV 2)))) aN)))) (aC (sub (b2 pSub (sub (eV 1)) (sub (eC (.int 1))))) aN)))) sNil)
  (sSeq (sIf (toB (b2 pEq (sub (eV 0)) (sub (eC (.str "nested"))))) (sRet (eTup (aC (sub (eC (.int 0))) (aC (sub (b2 pSub (sub (eV 1)) (sub (eV 2)))) aN)))) sNil)
  (sRet (eTup (aC (sub (eC (.int 0))) (aC (sub (eB qMin (aC (sub (eC (.int 0))) (aC (sub (b2 pSub (sub (eV 1)) (sub (eV 2)))) aN)))) aN))))))))
def m_let_shifts (ca : Nat → Addr) : List Sl → R RV := runB 0 (b_let_shifts ca)
def E1__law_pool (ca : Nat → Addr) : M AV :=
  (sub (b2 pMod (sub (eB qInt (aC (sub (eB qAbs (aC (sub (eV 1)) aN))) aN))) (sub (b2 pPow (sub (eC (.int 10))) (sub (eC (.int 60)))))))
def b__law_pool (ca : Nat → Addr) : M Fl :=
  (sRet (b2 pAdd (sub (eLst (aC (sub (eC (.int 0))) aN))) (sub (eComp [1] (iSeq (sub (eSl (sub (eV 0)) oO (oI (sub (eC (.int 63))))))) (setS 1) (pure true) (E1__law_pool ca)))))
def m__law_pool (ca : Nat → Addr) : List Sl → R RV := runB 1 (b__law_pool ca)
def b__law_draw (ca : Nat → Addr) : M Fl :=
  (sSeq (sSetIx 0 (sub (b2 pAdd (sub (b2 pIx (sub (eV 0)) (sub (eC (.int 0))))) (sub (eC (.int 1))))) (sub (eC (.int 0))))
  (sSeq (sIf (toB (b2 pEq (sub (eB qLen (aC (sub (eV 0)) aN))) (sub (eC (.int 1))))) (sRet (b2 pMod (sub (eB qInt (aC (sub (b2 pIx (sub (eV 0)) (sub (eC (.int 0))))) aN))) (sub (eV 1)))) sNil)
  (sSeq (sSet 2 (eB qInt (aC (sub (b2 pIx (sub (eV 0)) (sub (eC (.int 1))))) aN)))
  (sSeq (sSetIx 0 (sub (b2 pDiv (sub (eV 2)) (sub (eV 1)))) (sub (eC (.int 1))))
  (sSeq (sIf (toB (b2 pEq (sub (b2 pIx (sub (eV 0)) (sub (eC (.int 1))))) (sub (eC (.int 0))))) (sExpr (mPopAt 0 (sub (eC (.int 1))))) sNil)
  (sRet (b2 pMod (sub (eB qInt (aC (sub (eV 2)) aN))) (sub (eV 1)))))))))
def m__law_draw (ca : Nat → Addr) : List Sl → R RV := runB 1 (b__law_draw ca)
def b__law_same (ca : Nat → Addr) : M Fl :=
  (sRet (eAn (b2 pEq (sub (eV 0)) (sub (eV 1))) (b2 pEq (sub (eB qRepr (aC (sub (eV 0)) aN))) (sub (eB qRepr (aC (sub (eV 1)) aN))))))
def m__law_same (ca : Nat → Addr) : List Sl → R RV := runB 0 (b__law_same ca)
def L1__law_heights (ca : Nat → Addr) : M Fl :=
  (sIf (toB (b2 pEq (sub (eSl (sub (eV 0)) (oI (sub (b2 pSub (sub (eV 3)) (sub (eC (.int 1)))))) (oI (sub (b2 pAdd (sub (eV 3)) (sub (eC (.int 1)))))))) (sub (eV 1)))) (sExpr (mApp 2 (sub (b2 pSub (sub (mS1 pCount (sub (eSl (sub (eV 0)) oO (oI (sub (eV 3))))) (sub (eC (.str "("))))) (sub (mS1 pCount (sub (eSl (sub (eV 0)) oO (oI (sub (eV 3))))) (sub (eC (.str ")"))))))))) sNil)
def b__law_heights (ca : Nat → Addr) : M Fl :=
  (sSeq (sSet 2 (eLst aN))
  (sSeq (sFor (iRange2 (aC (sub (eC (.int 1))) (aC (sub (eB qLen (aC (sub (eV 0)) aN))) aN))) (setS 3) (L1__law_heights ca))
  (sRet (eV 2))))
def m__law_heights (ca : Nat → Addr) : List Sl → R RV := runB 2 (b__law_heights ca)
def L1__law_word_of (ca : Nat → Addr) : M Fl :=
  (sSeq (sSet 3 (b2 pIx (sub (eV 0)) (sub (eV 2))))
  (sSeq (sSet 4 (b2 pIx (sub (eV 0)) (sub (b2 pAdd (sub (eV 2)) (sub (eC (.int 1)))))))
  (sSeq (sSet 5 (b2 pSub (sub (b2 pSub (sub (b2 pAdd (sub (b2 pIx (sub (eV 3)) (sub (eC (.int 0))))) (sub (b2 pIx (sub (eV 3)) (sub (eC (.int 1))))))) (sub (b2 pIx (sub (eV 4)) (sub (eC (.int 0))))))) (sub (eC (.int 1)))))
  (sSet 1 (b2 pAdd (sub (b2 pAdd (sub (eV 1)) (sub (b2 pRepS (sub (eC (.str ")"))) (sub (b2 pSub (sub (b2 pIx (sub (eV 3)) (sub (eC (.int 1))))) (sub (eV 5)))))))) (sub (b2 pRepS (sub (eC (.str "("))) (sub (b2 pSub (sub (b2 pIx (sub (eV 4)) (sub (eC (.int 1))))) (sub (eV 5)))))))))))
def b__law_word_of (ca : Nat → Addr) : M Fl :=
  (sSeq (sSet 1 (b2 pRepS (sub (eC (.str "("))) (sub (b2 pIx (sub (b2 pIx (sub (eV 0)) (sub (eC (.int 0))))) (sub (eC (.int 1)))))))
  (sSeq (sFor (iRange1 (aC (sub (b2 pSub (sub (eB qLen (aC (sub (eV 0)) aN))) (sub (eC (.int 1))))) aN)) (setS 2) (L1__law_word_of ca))
  (sRet (b2 pAdd (sub (eV 1)) (sub (b2 pRepS (sub (eC (.str ")"))) (sub (b2 pIx (sub (b2 pIx (sub (eV 0)) (sub (b1 pNeg (sub (eC (.int 1))))))) (sub (eC (.int 1)))))))))))
def m__law_word_of (ca : Nat → Addr) : List Sl → R RV := runB 5 (b__law_word_of ca)
def E1__law_fault (ca : Nat → Addr) : M AV :=
  (sub (eV 3))
def T1__law_fault (ca : Nat → Addr) : M Bool :=
  (toB (b2 (pIn true) (sub (b2 pIx (sub (eV 0)) (sub (eV 3)))) (sub (eC (.str "()")))))
def L1__law_fault (ca : Nat → Addr) : M Fl :=
  (sSeq (sIf (tAn (toB (b2 pEq (sub (b2 pIx (sub (eV 0)) (sub (eV 3)))) (sub (eC (.str ")"))))) (toB (b2 pEq (sub (eV 2)) (sub (eC (.int 0)))))) (sRet (eV 3)) sNil)
  (sSet 2 (b2 pSub (sub (b2 pAdd (sub (eV 2)) (sub (eC (.int 1))))) (sub (b2 pMul (sub (eC (.int 2))) (sub (eB qInt (aC (sub (b2 pEq (sub (b2 pIx (sub (eV 0)) (sub (eV 3)))) (sub (eC (.str ")"))))) aN))))))))
def b__law_fault (ca : Nat → Addr) : M Fl :=
  (sSeq (sSet 1 (eComp [3] (iRange1 (aC (sub (eB qLen (aC (sub (eV 0)) aN))) aN)) (setS 3) (T1__law_fault ca) (E1__law_fault ca)))
  (sSeq (sIf (eT (sub (eV 1))) (sRet (b2 pIx (sub (eV 1)) (sub (eC (.int 0))))) sNil)
  (sSeq (sSet 2 (eC (.int 0)))
  (sSeq (sFor (iRange1 (aC (sub (eB qLen (aC (sub (eV 0)) aN))) aN)) (setS 3) (L1__law_fault ca))
  (sSeq (sIf (toB (b2 (pOrd fun i j => decide (j < i)) (sub (eV 2)) (sub (eC (.int 0))))) (sRet (eB qLen (aC (sub (eV 0)) aN))) sNil)
  (sRet (b1 pNeg (sub (eC (.int 1))))))))))
def m__law_fault (ca : Nat → Addr) : List Sl → R RV := runB 3 (b__law_fault ca)
def L1__law_words (ca : Nat → Addr) : M Fl :=
  (sSeq (sSet 5 (mS1 pCount (sub (eV 4)) (sub (eC (.str "(")))))
  (sSeq (sIf (toB (b2 (pOrd fun i j => decide (i < j)) (sub (eV 5)) (sub (eV 0)))) (sExpr (mApp 3 (sub (b2 pAdd (sub (eV 4)) (sub (eC (.str "("))))))) sNil)
  (sIf (toB (b2 (pOrd fun i j => decide (i < j)) (sub (mS1 pCount (sub (eV 4)) (sub (eC (.str ")"))))) (sub (eV 5)))) (sExpr (mApp 3 (sub (b2 pAdd (sub (eV 4)) (sub (eC (.str ")"))))))) sNil)))
def L2__law_words (ca : Nat → Addr) : M Fl :=
  (sSeq (sSet 3 (eLst aN))
  (sSeq (sFor (iSeq (sub (eB qList (aC (sub (eV 1)) aN)))) (setS 4) (L1__law_words ca))
  (sSet 1 (eV 3))))
def b__law_words (ca : Nat → Addr) : M Fl :=
  (sSeq (sSet 1 (eLst (aC (sub (eC (.str ""))) aN)))
  (sSeq (sFor (iRange1 (aC (sub (b2 pMul (sub (eC (.int 2))) (sub (eV 0)))) aN)) (setS 2) (L2__law_words ca))
  (sRet (eV 1))))
def m__law_words (ca : Nat → Addr) : List Sl → R RV := runB 5 (b__law_words ca)
def E1__law_counts (ca : Nat → Addr) : M AV :=
  (sub (b2 pMul (sub (b2 pIx (sub (eV 1)) (sub (eV 3)))) (sub (b2 pIx (sub (eV 1)) (sub (b2 pSub (sub (eV 2)) (sub (eV 3))))))))
def L1__law_counts (ca : Nat → Addr) : M Fl :=
  (sExpr (mApp 1 (sub (eB qSum (aC (sub (eComp [3] (iRange1 (aC (sub (b2 pAdd (sub (eV 2)) (sub (eC (.int 1))))) aN)) (setS 3) (pure true) (E1__law_counts ca))) aN)))))
def b__law_counts (ca : Nat → Addr) : M Fl :=
  (sSeq (sSet 1 (eLst (aC (sub (eC (.int 1))) aN)))
  (sSeq (sFor (iRange1 (aC (sub (eV 0)) aN)) (setS 2) (L1__law_counts ca))
  (sRet (eV 1))))
def m__law_counts (ca : Nat → Addr) : List Sl → R RV := runB 3 (b__law_counts ca)
def L1_first_not_let (ca : Nat → Addr) : M Fl :=
  (sSeq (sAsg (sub (b2 pIx (sub (eV 1)) (sub (b2 pSub (sub (eV 2)) (sub (eC (.int 1))))))) (gT 2 (gC (setS 3) (gC (setS 4) gN))))
  (sSeq (sAsg (sub (b2 pIx (sub (eV 1)) (sub (eV 2)))) (gT 2 (gC (setS 5) (gC (setS 6) gN))))
  (sSeq (sAsg (sub (eCall 3 (m_let_shifts ca) (aC (sub (eV 0)) (aC (sub (eV 4)) (aC (sub (eV 6)) aN))))) (gT 2 (gC (setS 7) (gC (setS 8) gN))))
  (sIf (tO (toB (b2 (pOrd fun i j => decide (i < j)) (sub (b2 pSub (sub (eV 5)) (sub (eV 3)))) (sub (eV 7)))) (toB (b2 (pOrd fun i j => decide (j < i)) (sub (b2 pSub (sub (eV 5)) (sub (eV 3)))) (sub (eV 8))))) (sRet (eV 2)) sNil))))
def b_first_not_let (ca : Nat → Addr) : M Fl :=
  (sSeq (sFor (iRange2 (aC (sub (eC (.int 1))) (aC (sub (eB qLen (aC (sub (eV 1)) aN))) aN))) (setS 2) (L1_first_not_let ca))
  (sRet (eC .non)))
def m_first_not_let (ca : Nat → Addr) : List Sl → R RV := runB 7 (b_first_not_let ca)
def L1__law_stairs (ca : Nat → Addr) : M Fl :=
  (sSeq (sSet 6 (eCallI 0 1 (m__law_draw ca) (aC (sub (eV 3)) aN)))
  (sSeq (sSet 7 (eB qMin (aC (sub (b2 pAdd (sub (b2 pAdd (sub (eV 2)) (sub (eV 3)))) (sub (eCallI 0 1 (m__law_draw ca) (aC (sub (eC (.int 3))) aN))))) (aC (sub (eC (.int 60))) aN))))
  (sSeq (sSet 2 (b2 pAdd (sub (eV 2)) (sub (eV 6))))
  (sSeq (sSet 3 (b2 pSub (sub (eV 7)) (sub (eV 2))))
  (sExpr (mApp 4 (sub (eTup (aC (sub (eV 2)) (aC (sub (eV 3)) aN))))))))))
def b__law_stairs (ca : Nat → Addr) : M Fl :=
  (sSeq (sSet 2 (eC (.int 0)))
  (sSeq (sSet 3 (b2 pAdd (sub (eC (.int 1))) (sub (eCallI 0 1 (m__law_draw ca) (aC (sub (eC (.int 5))) aN)))))
  (sSeq (sSet 4 (eLst (aC (sub (eTup (aC (sub (eC (.int 0))) (aC (sub (eV 3)) aN)))) aN)))
  (sSeq (sFor (iRange1 (aC (sub (b2 pSub (sub (eV 1)) (sub (eC (.int 1))))) aN)) (setS 5) (L1__law_stairs ca))
  (sRet (eV 4))))))
def m__law_stairs (ca : Nat → Addr) : List Sl → R RV := runB 6 (b__law_stairs ca)
def L1__law_word (ca : Nat → Addr) : M Fl :=
  (sSeq (sSet 6 (b2 pEq (sub (eCallI 0 1 (m__law_draw ca) (aC (sub (eC (.int 2))) aN))) (sub (eC (.int 0)))))
  (sIf (tO (toB (b2 pEq (sub (eV 3)) (sub (eC (.int 0))))) (tAn (eT (sub (eV 6))) (toB (b2 (pOrd fun i j => decide (i < j)) (sub (eV 4)) (sub (eV 1)))))) (sSeq (sSet 2 (b2 pAdd (sub (eV 2)) (sub (eC (.str "(")))))
  (sSeq (sSet 3 (b2 pAdd (sub (eV 3)) (sub (eC (.int 1)))))
  (sSet 4 (b2 pAdd (sub (eV 4)) (sub (eC (.int 1))))))) (sSeq (sSet 2 (b2 pAdd (sub (eV 2)) (sub (eC (.str ")")))))
  (sSet 3 (b2 pSub (sub (eV 3)) (sub (eC (.int 1))))))))
def b__law_word (ca : Nat → Addr) : M Fl :=
  (sSeq (sSet 2 (eC (.str "")))
  (sSeq (sSet 3 (eC (.int 0)))
  (sSeq (sSet 4 (eC (.int 0)))
  (sSeq (sFor (iRange1 (aC (sub (b2 pMul (sub (eC (.int 2))) (sub (eV 1)))) aN)) (setS 5) (L1__law_word ca))
  (sRet (eV 2))))))
def m__law_word (ca : Nat → Addr) : List Sl → R RV := runB 5 (b__law_word ca)
def L1__law_stairs_of (ca : Nat → Addr) : M Fl :=
  (sSeq (sSet 5 (b2 pAdd (sub (b2 pIx (sub (b2 pIx (sub (eV 3)) (sub (b1 pNeg (sub (eC (.int 1))))))) (sub (eC (.int 0))))) (sub (b2 pIx (sub (b2 pIx (sub (eV 3)) (sub (b1 pNeg (sub (eC (.int 1))))))) (sub (eC (.int 1)))))))
  (sExpr (mApp 3 (sub (eTup (aC (sub (b2 pSub (sub (b2 pSub (sub (eV 5)) (sub (b2 pIx (sub (eV 2)) (sub (eV 4)))))) (sub (eC (.int 1))))) (aC (sub (b2 pIx (sub (eV 1)) (sub (b2 pAdd (sub (eV 4)) (sub (eC (.int 1))))))) aN)))))))
def b__law_stairs_of (ca : Nat → Addr) : M Fl :=
  (sSeq (sSet 1 (eCall 2 (m__law_heights ca) (aC (sub (eV 0)) (aC (sub (eC (.str "()"))) aN))))
  (sSeq (sSet 2 (eCall 2 (m__law_heights ca) (aC (sub (eV 0)) (aC (sub (eC (.str ")("))) aN))))
  (sSeq (sSet 3 (eLst (aC (sub (eTup (aC (sub (eC (.int 0))) (aC (sub (b2 pIx (sub (eV 1)) (sub (eC (.int 0))))) aN)))) aN)))
  (sSeq (sFor (iRange1 (aC (sub (eB qLen (aC (sub (eV 2)) aN))) aN)) (setS 4) (L1__law_stairs_of ca))
  (sRet (eV 3))))))
def m__law_stairs_of (ca : Nat → Addr) : List Sl → R RV := runB 5 (b__law_stairs_of ca)
def b_check_number (ca : Nat → Addr) : M Fl :=
  (sIf (tO (toB (b2 (pOrd fun i j => decide (i < j)) (sub (eV 0)) (sub (eV 1)))) (toB (b2 (pOrd fun i j => decide (j < i)) (sub (eV 0)) (sub (eV 2))))) (sRaise "NumberError" ["number"] (aC (sub (eV 0)) aN)) sNil)
def m_check_number (ca : Nat → Addr) : List Sl → R RV := runB 0 (b_check_number ca)
def b_check_size (ca : Nat → Addr) : M Fl :=
  (sIf (tO (toB (b2 (pOrd fun i j => decide (i < j)) (sub (eV 0)) (sub (eV 1)))) (toB (b2 (pOrd fun i j => decide (j < i)) (sub (eV 0)) (sub (eV 2))))) (sRaise "SizeError" ["count"] (aC (sub (eV 0)) aN)) sNil)
def m_check_size (ca : Nat → Addr) : List Sl → R RV := runB 0 (b_check_size ca)
def L1_check_letters (ca : Nat → Addr) : M Fl :=
  (sIf (toB (b2 (pIn true) (sub (eV 3)) (sub (eV 1)))) (sRaise "WordError" ["at"] (aC (sub (eV 2)) aN)) sNil)
def b_check_letters (ca : Nat → Addr) : M Fl :=
  (sFor (iEnum1 (aC (sub (eV 0)) aN)) (gT 2 (gC (setS 2) (gC (setS 3) gN))) (L1_check_letters ca))
def m_check_letters (ca : Nat → Addr) : List Sl → R RV := runB 2 (b_check_letters ca)
def L1_check_balance (ca : Nat → Addr) : M Fl :=
  (sSeq (sIf (toB (b2 pEq (sub (eV 5)) (sub (eV 1)))) (sAug (fun i j => i + j) 3 (sub (eC (.int 1)))) sNil)
  (sIf (toB (b2 pEq (sub (eV 5)) (sub (eV 2)))) (sSeq (sIf (toB (b2 pEq (sub (eV 3)) (sub (eC (.int 0))))) (sRaise "WordError" ["at"] (aC (sub (eV 4)) aN)) sNil)
  (sAug (fun i j => i - j) 3 (sub (eC (.int 1))))) sNil))
def b_check_balance (ca : Nat → Addr) : M Fl :=
  (sSeq (sSet 3 (eC (.int 0)))
  (sSeq (sFor (iEnum1 (aC (sub (eV 0)) aN)) (gT 2 (gC (setS 4) (gC (setS 5) gN))) (L1_check_balance ca))
  (sIf (toB (b2 (pOrd fun i j => decide (j < i)) (sub (eV 3)) (sub (eC (.int 0))))) (sRaise "WordError" ["at"] (aC (sub (eB qLen (aC (sub (eV 0)) aN))) aN)) sNil)))
def m_check_balance (ca : Nat → Addr) : List Sl → R RV := runB 3 (b_check_balance ca)
def b_check_staircase (ca : Nat → Addr) : M Fl :=
  (sSeq (sSet 1 (eCall 2 (m_first_not_let ca) (aC (sub (eC (.str "leaning"))) (aC (sub (b1 (pFld (FT ca) "stretches") (sub (eV 0)))) aN))))
  (sIf (toB (b2 (pIsN true) (sub (eV 1)) (sub (eC .non)))) (sRaise "LaneError" ["at"] (aC (sub (eV 1)) aN)) sNil))
def m_check_staircase (ca : Nat → Addr) : List Sl → R RV := runB 1 (b_check_staircase ca)
def b__law_due (ca : Nat → Addr) : M Fl :=
  (sSeq (sSet 2 (b2 pIx (sub (eLst (aC (sub (eC (.int 240))) (aC (sub (eC (.int 240))) (aC (sub (eC (.int 120))) aN))))) (sub (eV 0))))
  (sSeq (sIf (tO (toB (b2 (pOrd fun i j => decide (j < i)) (sub (eB qLen (aC (sub (eV 1)) aN))) (sub (eV 2)))) (tAn (toB (b2 pEq (sub (eV 0)) (sub (eC (.int 2))))) (toB (b2 (pOrd fun i j => decide (i < j)) (sub (eB qLen (aC (sub (eV 1)) aN))) (sub (eC (.int 2))))))) (sRet (eLst (aC (sub (eC (.str "size"))) (aC (sub (eB qLen (aC (sub (eV 1)) aN))) (aC (sub (eC (.bl false))) aN))))) sNil)
  (sSeq (sSet 3 (eCall 1 (m__law_fault ca) (aC (sub (eV 1)) aN)))
  (sSeq (sIf (toB (b2 (pOrd fun i j => decide (j ≤ i)) (sub (eV 3)) (sub (eC (.int 0))))) (sRet (eLst (aC (sub (eC (.str "word"))) (aC (sub (eV 3)) (aC (sub (eC (.bl false))) aN))))) sNil)
  (sSeq (sIf (toB (b2 pEq (sub (eV 0)) (sub (eC (.int 2))))) (sRet (eLst (aC (sub (eC (.str "stairs"))) (aC (sub (eB qTuple (aC (sub (eCall 1 (m__law_stairs_of ca) (aC (sub (eV 1)) aN))) aN))) aN)))) sNil)
  (sRet (eLst (aC (sub (eC (.str "told"))) (aC (sub (eCall 2 (m__law_heights ca) (aC (sub (eV 1)) (aC (sub (b2 pIx (sub (eLst (aC (sub (eC (.str "()"))) (aC (sub (eC (.str ")("))) aN)))) (sub (eV 0)))) aN)))) aN)))))))))
def m__law_due (ca : Nat → Addr) : List Sl → R RV := runB 2 (b__law_due ca)
def b_check_brackets (ca : Nat → Addr) : M Fl :=
  (sSeq (sExpr (eCall 3 (m_check_size ca) (aC (sub (eB qLen (aC (sub (eV 0)) aN))) (aC (sub (eV 1)) (aC (sub (eV 2)) aN)))))
  (sSeq (sExpr (eCall 2 (m_check_letters ca) (aC (sub (eV 0)) (aC (sub (eC (.str "()"))) aN))))
  (sExpr (eCall 3 (m_check_balance ca) (aC (sub (eV 0)) (aC (sub (eC (.str "("))) (aC (sub (eC (.str ")"))) aN)))))))
def m_check_brackets (ca : Nat → Addr) : List Sl → R RV := runB 0 (b_check_brackets ca)
def b_bracket_count (ca : Nat → Addr) : M Fl :=
  (sSeq (sExpr (eCall 3 (m_check_number ca) (aC (sub (eV 0)) (aC (sub (eC (.int 0))) (aC (sub (eC (.int 60))) aN)))))
  (sRet (b2 pDiv (sub (eB qComb (aC (sub (b2 pMul (sub (eC (.int 2))) (sub (eV 0)))) (aC (sub (eV 0)) aN)))) (sub (b2 pAdd (sub (eV 0)) (sub (eC (.int 1))))))))
def m_bracket_count (ca : Nat → Addr) : List Sl → R RV := runB 0 (b_bracket_count ca)
def T1_bracket_words (ca : Nat → Addr) : M Bool :=
  (toB (e3 (pOrd fun i j => decide (i ≤ j)) (pOrd fun i j => decide (i ≤ j)) (sub (eC (.int 0))) (sub (b2 pAdd (sub (eV 5)) (sub (eV 7)))) (sub (eV 2))))
def E1_bracket_words (ca : Nat → Addr) : M AV :=
  (sub (eTup (aC (sub (b2 pAdd (sub (eV 3)) (sub (eV 6)))) (aC (sub (b2 pAdd (sub (eV 5)) (sub (eV 7)))) aN))))
def L1_bracket_words (ca : Nat → Addr) : M Fl :=
  (sSet 1 (eComp2 [3, 5, 6, 7] (iSeq (sub (eV 1))) (gT 2 (gC (setS 3) (gC (setS 5) gN))) (pure true) (iSeq (sub (eC (.tup [(.tup [(.str "("), (.int 1)]), (.tup [(.str ")"), (.int (-1))])])))) [6, 7] (gT 2 (gC (setS 6) (gC (setS 7) gN))) (T1_bracket_words ca) (E1_bracket_words ca)))
def b_bracket_words (ca : Nat → Addr) : M (List Dv) :=
  (gSeq (sExpr (eCall 3 (m_check_number ca) (aC (sub (eV 0)) (aC (sub (eC (.int 0))) (aC (sub (eC (.int 7))) aN)))))
  (gSeq (sSet 1 (eLst (aC (sub (eTup (aC (sub (eC (.str ""))) (aC (sub (eC (.int 0))) aN)))) aN)))
  (gSeq (sFor (iRange3 (aC (sub (b2 pSub (sub (b2 pMul (sub (eC (.int 2))) (sub (eV 0)))) (sub (eC (.int 1))))) (aC (sub (b1 pNeg (sub (eC (.int 1))))) (aC (sub (b1 pNeg (sub (eC (.int 1))))) aN)))) (setS 2) (L1_bracket_words ca))
  (gFor (iSeq (sub (eV 1))) (gT 2 (gC (setS 3) (gC (setS 4) gN))) (sub (eV 3))))))
def m_bracket_words (ca : Nat → Addr) : List Sl → R (List Dv) := runG 7 (b_bracket_words ca)
def L1_Lane_init (ca : Nat → Addr) : M Fl :=
  (sSeq (sExpr (eCall 3 (m_check_number ca) (aC (sub (eV 2)) (aC (sub (b1 pNeg (sub (eC (.int 4000))))) (aC (sub (eC (.int 4000))) aN)))))
  (sExpr (eCall 3 (m_check_number ca) (aC (sub (eV 3)) (aC (sub (eC (.int 1))) (aC (sub (eC (.int 60))) aN))))))
def E1_Lane_init (ca : Nat → Addr) : M AV :=
  (sub (eTup (aC (sub (b2 pSub (sub (eV 2)) (sub (eV 5)))) (aC (sub (eV 3)) aN))))
def b_Lane_init (ca : Nat → Addr) : M Fl :=
  (sSeq (sExpr (eCall 3 (m_check_size ca) (aC (sub (eB qLen (aC (sub (eV 1)) aN))) (aC (sub (eC (.int 1))) (aC (sub (eC (.int 60))) aN)))))
  (sSeq (sFor (iSeq (sub (eV 1))) (gT 2 (gC (setS 2) (gC (setS 3) gN))) (L1_Lane_init ca))
  (sSeq (sSet 4 (eCall 2 (m_first_not_let ca) (aC (sub (eC (.str "rowwise"))) (aC (sub (eV 1)) aN))))
  (sSeq (sIf (toB (b2 (pIsN true) (sub (eV 4)) (sub (eC .non)))) (sRaise "LaneError" ["at"] (aC (sub (eV 4)) aN)) sNil)
  (sSeq (sSet 5 (b2 pIx (sub (b2 pIx (sub (eV 1)) (sub (eC (.int 0))))) (sub (eC (.int 0)))))
  (sSeq (sFldS (FT ca) 0 "stretches" (sub (eB qTuple (aC (sub (eComp [2, 3] (iSeq (sub (eV 1))) (gT 2 (gC (setS 2) (gC (setS 3) gN))) (pure true) (E1_Lane_init ca))) aN))))
  (sFldS (FT ca) 0 "height" (sub (eB qLen (aC (sub (b1 (pFld (FT ca) "stretches") (sub (eV 0)))) aN))))))))))
def m_Lane_init (ca : Nat → Addr) : List Sl → R RV := runB 4 (b_Lane_init ca)
def L1_stair_word (ca : Nat → Addr) : M Fl :=
  (sSeq (sSet 6 (b2 pSub (sub (b2 pSub (sub (b2 pAdd (sub (eV 1)) (sub (eV 2)))) (sub (eV 4)))) (sub (eC (.int 1)))))
  (sSeq (sExpr (mApp 3 (sub (b2 pAdd (sub (b2 pRepS (sub (eC (.str ")"))) (sub (b2 pSub (sub (eV 2)) (sub (eV 6)))))) (sub (b2 pRepS (sub (eC (.str "("))) (sub (b2 pSub (sub (eV 5)) (sub (eV 6))))))))))
  (sSeq (sSet 1 (eV 4))
  (sSet 2 (eV 5)))))
def b_stair_word (ca : Nat → Addr) : M Fl :=
  (sSeq (sExpr (eCall 1 (m_check_staircase ca) (aC (sub (eV 0)) aN)))
  (sSeq (sAsg (sub (b2 pIx (sub (b1 (pFld (FT ca) "stretches") (sub (eV 0)))) (sub (eC (.int 0))))) (gT 2 (gC (setS 1) (gC (setS 2) gN))))
  (sSeq (sSet 3 (eLst (aC (sub (b2 pRepS (sub (eC (.str "("))) (sub (eV 2)))) aN)))
  (sSeq (sFor (iSeq (sub (eSl (sub (b1 (pFld (FT ca) "stretches") (sub (eV 0)))) (oI (sub (eC (.int 1)))) oO))) (gT 2 (gC (setS 4) (gC (setS 5) gN))) (L1_stair_word ca))
  (sSeq (sExpr (mApp 3 (sub (b2 pRepS (sub (eC (.str ")"))) (sub (eV 2))))))
  (sRet (mS1 pJoin (sub (eC (.str ""))) (sub (eV 3)))))))))
def m_stair_word (ca : Nat → Addr) : List Sl → R RV := runB 6 (b_stair_word ca)
def b_tops (ca : Nat → Addr) : M Fl :=
  (sSeq (sExpr (eCall 3 (m_check_brackets ca) (aC (sub (eV 0)) (aC (sub (eC (.int 0))) (aC (sub (eC (.int 240))) aN)))))
  (sRet (eCall 3 (m_heights_between ca) (aC (sub (eV 0)) (aC (sub (eC (.str "("))) (aC (sub (eC (.str ")"))) aN))))))
def m_tops (ca : Nat → Addr) : List Sl → R RV := runB 0 (b_tops ca)
def b_bottoms (ca : Nat → Addr) : M Fl :=
  (sSeq (sExpr (eCall 3 (m_check_brackets ca) (aC (sub (eV 0)) (aC (sub (eC (.int 0))) (aC (sub (eC (.int 240))) aN)))))
  (sRet (eCall 3 (m_heights_between ca) (aC (sub (eV 0)) (aC (sub (eC (.str ")"))) (aC (sub (eC (.str "("))) aN))))))
def m_bottoms (ca : Nat → Addr) : List Sl → R RV := runB 0 (b_bottoms ca)
def b__law_lane_word (ca : Nat → Addr) : M Fl :=
  (sSeq (sTry (isaT exCls exPrs) [("LaneError", (some 2), fun er => (sRet (eLst (aC (sub (eC (.str "lane"))) (aC (sub (eXf exCls exFld er 2 "at")) (aC (sub (eIsL exCls exPrs er 2 ["NumberError", "SizeError", "WordError"])) aN)))))), ("RimmachinesError", none, fun er => (sRet (eLst (aC (sub (eC (.str "other"))) aN))))] (sSet 1 (eCall 1 (m_stair_word ca) (aC (sub (eV 0)) aN))))
  (sRet (eLst (aC (sub (eC (.str "told"))) (aC (sub (eV 1)) aN)))))
def m__law_lane_word (ca : Nat → Addr) : List Sl → R RV := runB 2 (b__law_lane_word ca)
def b__law_count (ca : Nat → Addr) : M Fl :=
  (sSeq (sTry (isaT exCls exPrs) [("NumberError", (some 2), fun er => (sRet (eLst (aC (sub (eC (.str "number"))) (aC (sub (eXf exCls exFld er 2 "number")) (aC (sub (eIsL exCls exPrs er 2 ["LaneError", "SizeError", "WordError"])) aN)))))), ("RimmachinesError", none, fun er => (sRet (eLst (aC (sub (eC (.str "other"))) aN))))] (sSet 1 (eCall 1 (m_bracket_count ca) (aC (sub (eV 0)) aN))))
  (sRet (eLst (aC (sub (eC (.str "told"))) (aC (sub (eV 1)) aN)))))
def m__law_count (ca : Nat → Addr) : List Sl → R RV := runB 2 (b__law_count ca)
def L1_stair_of (ca : Nat → Addr) : M Fl :=
  (sSeq (sAug (fun i j => i + j) 2 (sub (b2 pSub (sub (b2 pSub (sub (b2 pIx (sub (eV 1)) (sub (eV 4)))) (sub (eV 5)))) (sub (eC (.int 1))))))
  (sExpr (mApp 3 (sub (eTup (aC (sub (eV 2)) (aC (sub (b2 pIx (sub (eV 1)) (sub (b2 pAdd (sub (eV 4)) (sub (eC (.int 1))))))) aN)))))))
def b_stair_of (ca : Nat → Addr) : M Fl :=
  (sSeq (sExpr (eCall 3 (m_check_brackets ca) (aC (sub (eV 0)) (aC (sub (eC (.int 2))) (aC (sub (eC (.int 120))) aN)))))
  (sSeq (sSet 1 (eCall 3 (m_heights_between ca) (aC (sub (eV 0)) (aC (sub (eC (.str "("))) (aC (sub (eC (.str ")"))) aN)))))
  (sSeq (sSet 2 (eC (.int 0)))
  (sSeq (sSet 3 (eLst (aC (sub (eTup (aC (sub (eV 2)) (aC (sub (b2 pIx (sub (eV 1)) (sub (eC (.int 0))))) aN)))) aN)))
  (sSeq (sFor (iEnum1 (aC (sub (eCall 3 (m_heights_between ca) (aC (sub (eV 0)) (aC (sub (eC (.str ")"))) (aC (sub (eC (.str "("))) aN))))) aN)) (gT 2 (gC (setS 4) (gC (setS 5) gN))) (L1_stair_of ca))
  (sRet (eMake (ca 5) 1 (m_Lane_init ca) (aC (sub (eV 3)) aN))))))))
def m_stair_of (ca : Nat → Addr) : List Sl → R RV := runB 5 (b_stair_of ca)
def E1__law_not_let (ca : Nat → Addr) : M AV :=
  (sub (eTup (aC (sub (b2 pAdd (sub (b2 pIx (sub (eV 10)) (sub (eC (.int 0))))) (sub (b2 pIx (sub (eV 5)) (sub (eC (.int 0))))))) (aC (sub (b2 pIx (sub (eV 10)) (sub (eC (.int 1))))) aN))))
def R9__law_not_let (ca : Nat → Addr) : M Fl :=
  (sRet (eCall 2 (m__law_same ca) (aC (sub (eCall 1 (m__law_lane_word ca) (aC (sub (eMake (ca 5) 1 (m_Lane_init ca) (aC (sub (eV 9)) aN))) aN))) (aC (sub (eV 8)) aN))))
def R8__law_not_let (ca : Nat → Addr) : M Fl :=
  (sSeq (sSet 9 (b2 pAdd (sub (b2 pAdd (sub (b2 pAdd (sub (eV 1)) (sub (eLst (aC (sub (eV 5)) aN))))) (sub (eV 7)))) (sub (eLst (aC (sub (eTup (aC (sub (b2 pSub (sub (b2 pIx (sub (b2 pIx (sub (eV 7)) (sub (b1 pNeg (sub (eC (.int 1))))))) (sub (eC (.int 0))))) (sub (eC (.int 1))))) (aC (sub (b2 pAdd (sub (b2 pIx (sub (b2 pIx (sub (eV 7)) (sub (b1 pNeg (sub (eC (.int 1))))))) (sub (eC (.int 1))))) (sub (eC (.int 1))))) aN)))) aN))))) (R9__law_not_let ca))
def R7__law_not_let (ca : Nat → Addr) : M Fl :=
  (sSeq (sIf (tNt (eT (sub (eCall 2 (m__law_same ca) (aC (sub (eCall 1 (m__law_lane_word ca) (aC (sub (eMake (ca 5) 1 (m_Lane_init ca) (aC (sub (b2 pAdd (sub (eV 1)) (sub (eLst (aC (sub (eV 5)) aN))))) aN))) aN))) (aC (sub (eV 8)) aN)))))) (sRet (eC (.bl false))) sNil) (R8__law_not_let ca))
def R6__law_not_let (ca : Nat → Addr) : M Fl :=
  (sSeq (sSet 8 (eLst (aC (sub (eC (.str "lane"))) (aC (sub (eB qLen (aC (sub (eV 1)) aN))) (aC (sub (eC (.bl false))) aN))))) (R7__law_not_let ca))
def R5__law_not_let (ca : Nat → Addr) : M Fl :=
  (sSeq (sSet 7 (eComp [10] (iSeq (sub (eV 1))) (setS 10) (pure true) (E1__law_not_let ca))) (R6__law_not_let ca))
def R4__law_not_let (ca : Nat → Addr) : M Fl :=
  (sSeq (sIf (tAn (toB (b2 (pOrd fun i j => decide (j < i)) (sub (eV 3)) (sub (eC (.int 1))))) (toB (b2 pEq (sub (eCallI 0 1 (m__law_draw ca) (aC (sub (eC (.int 2))) aN))) (sub (eC (.int 0)))))) (sSeq (sSet 6 (eCallI 0 1 (m__law_draw ca) (aC (sub (b2 pSub (sub (eV 3)) (sub (eC (.int 1))))) aN)))
  (sSet 5 (eTup (aC (sub (b2 pAdd (sub (eV 2)) (sub (eV 6)))) (aC (sub (b2 pAdd (sub (eC (.int 1))) (sub (eCallI 0 1 (m__law_draw ca) (aC (sub (b2 pSub (sub (b2 pSub (sub (eV 3)) (sub (eC (.int 1))))) (sub (eV 6)))) aN))))) aN))))) sNil) (R5__law_not_let ca))
def R3__law_not_let (ca : Nat → Addr) : M Fl :=
  (sSeq (sSet 5 (eTup (aC (sub (b2 pSub (sub (eV 2)) (sub (eV 4)))) (aC (sub (b2 pAdd (sub (b2 pAdd (sub (eV 4)) (sub (eC (.int 1))))) (sub (eCallI 0 1 (m__law_draw ca) (aC (sub (eC (.int 20))) aN))))) aN)))) (R4__law_not_let ca))
def R2__law_not_let (ca : Nat → Addr) : M Fl :=
  (sSeq (sSet 4 (b2 pAdd (sub (eC (.int 1))) (sub (eCallI 0 1 (m__law_draw ca) (aC (sub (eC (.int 3))) aN))))) (R3__law_not_let ca))
def R1__law_not_let (ca : Nat → Addr) : M Fl :=
  (sSeq (sSet 3 (b2 pIx (sub (b2 pIx (sub (eV 1)) (sub (b1 pNeg (sub (eC (.int 1))))))) (sub (eC (.int 1))))) (R2__law_not_let ca))
def b__law_not_let (ca : Nat → Addr) : M Fl :=
  (sSeq (sSet 2 (b2 pIx (sub (b2 pIx (sub (eV 1)) (sub (b1 pNeg (sub (eC (.int 1))))))) (sub (eC (.int 0))))) (R1__law_not_let ca))
def m__law_not_let (ca : Nat → Addr) : List Sl → R RV := runB 9 (b__law_not_let ca)
def b__law_read (ca : Nat → Addr) : M Fl :=
  (sSeq (sTry (isaT exCls exPrs) [("WordError", (some 3), fun er => (sRet (eLst (aC (sub (eC (.str "word"))) (aC (sub (eXf exCls exFld er 3 "at")) (aC (sub (eIsL exCls exPrs er 3 ["LaneError", "NumberError", "SizeError"])) aN)))))), ("SizeError", (some 3), fun er => (sRet (eLst (aC (sub (eC (.str "size"))) (aC (sub (eXf exCls exFld er 3 "count")) (aC (sub (eIsL exCls exPrs er 3 ["LaneError", "NumberError", "WordError"])) aN)))))), ("RimmachinesError", none, fun er => (sRet (eLst (aC (sub (eC (.str "other"))) aN))))] (sIf (toB (b2 pEq (sub (eV 0)) (sub (eC (.int 0))))) (sSet 2 (eCall 1 (m_tops ca) (aC (sub (eV 1)) aN))) (sIf (toB (b2 pEq (sub (eV 0)) (sub (eC (.int 1))))) (sSet 2 (eCall 1 (m_bottoms ca) (aC (sub (eV 1)) aN))) (sSet 2 (eCall 1 (m_stair_of ca) (aC (sub (eV 1)) aN))))))
  (sSeq (sIf (toB (b2 (pOrd fun i j => decide (i < j)) (sub (eV 0)) (sub (eC (.int 2))))) (sRet (eLst (aC (sub (eC (.str "told"))) (aC (sub (eV 2)) aN)))) sNil)
  (sSeq (sIf (tNt (eT (sub (eIsI (ca 5) (sub (eV 2)))))) (sRet (eLst (aC (sub (eC (.str "no lane"))) aN))) sNil)
  (sRet (eLst (aC (sub (eC (.str "stairs"))) (aC (sub (b1 (pFld (FT ca) "stretches") (sub (eV 2)))) aN)))))))
def m__law_read (ca : Nat → Addr) : List Sl → R RV := runB 2 (b__law_read ca)
def b__law_list (ca : Nat → Addr) : M Fl :=
  (sSeq (sTry (isaT exCls exPrs) [("NumberError", (some 2), fun er => (sRet (eLst (aC (sub (eC (.str "number"))) (aC (sub (eXf exCls exFld er 2 "number")) (aC (sub (eIsL exCls exPrs er 2 ["LaneError", "SizeError", "WordError"])) aN)))))), ("RimmachinesError", none, fun er => (sRet (eLst (aC (sub (eC (.str "other"))) aN))))] (sSet 1 (eListG exCls 1 (m_bracket_words ca) (aC (sub (eV 0)) aN))))
  (sRet (eLst (aC (sub (eC (.str "told"))) (aC (sub (eV 1)) aN)))))
def m__law_list (ca : Nat → Addr) : List Sl → R RV := runB 2 (b__law_list ca)
def E1__law_lane (ca : Nat → Addr) : M AV :=
  (sub (eTup (aC (sub (b2 pAdd (sub (b2 pIx (sub (eV 7)) (sub (eC (.int 0))))) (sub (eV 4)))) (aC (sub (b2 pIx (sub (eV 7)) (sub (eC (.int 1))))) aN))))
def R8__law_lane (ca : Nat → Addr) : M Fl :=
  (sRet (eCall 2 (m__law_same ca) (aC (sub (eCall 1 (m__law_lane_word ca) (aC (sub (eV 5)) aN))) (aC (sub (eLst (aC (sub (eC (.str "told"))) (aC (sub (eV 2)) aN)))) aN))))
def R7__law_lane (ca : Nat → Addr) : M Fl :=
  (sSeq (sIf (tNt (eT (sub (eCall 2 (m__law_same ca) (aC (sub (eCall 2 (m__law_read ca) (aC (sub (eC (.int 2))) (aC (sub (eV 2)) aN)))) (aC (sub (eV 6)) aN)))))) (sRet (eC (.bl false))) sNil) (R8__law_lane ca))
def R6__law_lane (ca : Nat → Addr) : M Fl :=
  (sSeq (sIf (toB (b2 (pOrd fun i j => decide (j < i)) (sub (eB qLen (aC (sub (eV 2)) aN))) (sub (eC (.int 120))))) (sSet 6 (eLst (aC (sub (eC (.str "size"))) (aC (sub (eB qLen (aC (sub (eV 2)) aN))) (aC (sub (eC (.bl false))) aN))))) sNil) (R7__law_lane ca))
def R5__law_lane (ca : Nat → Addr) : M Fl :=
  (sSeq (sSet 6 (eLst (aC (sub (eC (.str "stairs"))) (aC (sub (eB qTuple (aC (sub (eV 1)) aN))) aN)))) (R6__law_lane ca))
def R4__law_lane (ca : Nat → Addr) : M Fl :=
  (sSeq (sIf (tNt (eT (sub (eCall 2 (m__law_same ca) (aC (sub (eCall 1 (m__law_lane_word ca) (aC (sub (eV 5)) aN))) (aC (sub (eLst (aC (sub (eC (.str "told"))) (aC (sub (eV 2)) aN)))) aN)))))) (sRet (eC (.bl false))) sNil) (R5__law_lane ca))
def R3__law_lane (ca : Nat → Addr) : M Fl :=
  (sSeq (sSet 5 (eMake (ca 5) 1 (m_Lane_init ca) (aC (sub (eComp [7] (iSeq (sub (eV 1))) (setS 7) (pure true) (E1__law_lane ca))) aN))) (R4__law_lane ca))
def R2__law_lane (ca : Nat → Addr) : M Fl :=
  (sSeq (sSet 4 (b2 pIx (sub (eV 3)) (sub (eCallI 0 1 (m__law_draw ca) (aC (sub (eC (.int 4))) aN))))) (R3__law_lane ca))
def R1__law_lane (ca : Nat → Addr) : M Fl :=
  (sSeq (sSet 3 (eLst (aC (sub (eC (.int 0))) (aC (sub (b1 pNeg (sub (eC (.int 4000))))) (aC (sub (b2 pSub (sub (eC (.int 4000))) (sub (b2 pIx (sub (b2 pIx (sub (eV 1)) (sub (b1 pNeg (sub (eC (.int 1))))))) (sub (eC (.int 0))))))) (aC (sub (b2 pSub (sub (eCallI 0 1 (m__law_draw ca) (aC (sub (eC (.int 7001))) aN))) (sub (eC (.int 3500))))) aN)))))) (R2__law_lane ca))
def b__law_lane (ca : Nat → Addr) : M Fl :=
  (sSeq (sSet 2 (eCall 1 (m__law_word_of ca) (aC (sub (eV 1)) aN))) (R1__law_lane ca))
def m__law_lane (ca : Nat → Addr) : List Sl → R RV := runB 6 (b__law_lane ca)
def L1__law_good (ca : Nat → Addr) : M Fl :=
  (sIf (tNt (eT (sub (eCall 2 (m__law_same ca) (aC (sub (eCall 2 (m__law_read ca) (aC (sub (eV 1)) (aC (sub (eV 0)) aN)))) (aC (sub (eCall 2 (m__law_due ca) (aC (sub (eV 1)) (aC (sub (eV 0)) aN)))) aN)))))) (sRet (eC (.bl false))) sNil)
def R3__law_good (ca : Nat → Addr) : M Fl :=
  (sRet (eCall 2 (m__law_same ca) (aC (sub (eCall 1 (m__law_lane_word ca) (aC (sub (eV 2)) aN))) (aC (sub (eLst (aC (sub (eC (.str "told"))) (aC (sub (eV 0)) aN)))) aN))))
def R2__law_good (ca : Nat → Addr) : M Fl :=
  (sSeq (sSet 2 (eCall 1 (m_stair_of ca) (aC (sub (eV 0)) aN))) (R3__law_good ca))
def R1__law_good (ca : Nat → Addr) : M Fl :=
  (sSeq (sIf (tO (toB (b2 (pOrd fun i j => decide (i < j)) (sub (eB qLen (aC (sub (eV 0)) aN))) (sub (eC (.int 2))))) (toB (b2 (pOrd fun i j => decide (j < i)) (sub (eB qLen (aC (sub (eV 0)) aN))) (sub (eC (.int 120)))))) (sRet (eC (.bl true))) sNil) (R2__law_good ca))
def b__law_good (ca : Nat → Addr) : M Fl :=
  (sSeq (sFor (iRange1 (aC (sub (eC (.int 3))) aN)) (setS 1) (L1__law_good ca)) (R1__law_good ca))
def m__law_good (ca : Nat → Addr) : List Sl → R RV := runB 2 (b__law_good ca)
def E1__law_bad (ca : Nat → Addr) : M AV :=
  (sub (b2 pIx (sub (eC (.str "()"))) (sub (eCallI 0 1 (m__law_draw ca) (aC (sub (eC (.int 2))) aN)))))
def L1__law_bad (ca : Nat → Addr) : M Fl :=
  (sIf (tNt (eT (sub (eCall 2 (m__law_same ca) (aC (sub (eCall 2 (m__law_read ca) (aC (sub (eV 12)) (aC (sub (eV 11)) aN)))) (aC (sub (eCall 2 (m__law_due ca) (aC (sub (eV 12)) (aC (sub (eV 11)) aN)))) aN)))))) (sRet (eC (.bl false))) sNil)
def L2__law_bad (ca : Nat → Addr) : M Fl :=
  (sFor (iRange1 (aC (sub (eC (.int 3))) aN)) (setS 12) (L1__law_bad ca))
def R17__law_bad (ca : Nat → Addr) : M Fl :=
  (sRet (eC (.bl true)))
def R16__law_bad (ca : Nat → Addr) : M Fl :=
  (sSeq (sFor (iSeq (sub (eV 8))) (setS 11) (L2__law_bad ca)) (R17__law_bad ca))
def R15__law_bad (ca : Nat → Addr) : M Fl :=
  (sSeq (sSet 8 (b2 pAdd (sub (eV 8)) (sub (eLst (aC (sub (eSl (sub (b2 pRepS (sub (eC (.str "()"))) (sub (eC (.int 122))))) oO (oI (sub (b2 pAdd (sub (eV 10)) (sub (eC (.int 120)))))))) (aC (sub (eSl (sub (b2 pAdd (sub (eV 4)) (sub (b2 pRepS (sub (eC (.str "("))) (sub (eC (.int 250))))))) oO (oI (sub (b2 pAdd (sub (eV 10)) (sub (eC (.int 120)))))))) aN)))))) (R16__law_bad ca))
def R14__law_bad (ca : Nat → Addr) : M Fl :=
  (sSeq (sSet 8 (b2 pAdd (sub (eV 8)) (sub (eLst (aC (sub (eSl (sub (b2 pRepS (sub (eC (.str "()"))) (sub (eC (.int 62))))) oO (oI (sub (eV 10))))) (aC (sub (eSl (sub (b2 pAdd (sub (b2 pAdd (sub (eV 1)) (sub (eV 4)))) (sub (b2 pRepS (sub (eC (.str "("))) (sub (eC (.int 130))))))) oO (oI (sub (eV 10))))) aN)))))) (R15__law_bad ca))
def R13__law_bad (ca : Nat → Addr) : M Fl :=
  (sSeq (sSet 10 (b2 pAdd (sub (eC (.int 121))) (sub (eCallI 0 1 (m__law_draw ca) (aC (sub (eC (.int 3))) aN))))) (R14__law_bad ca))
def R12__law_bad (ca : Nat → Addr) : M Fl :=
  (sSeq (sSet 8 (b2 pAdd (sub (eV 8)) (sub (eLst (aC (sub (eC (.str ""))) (aC (sub (eC (.str "("))) (aC (sub (eC (.str ")"))) (aC (sub (eC (.str "()"))) (aC (sub (eC (.str ")("))) (aC (sub (eC (.str "(("))) (aC (sub (eC (.str "))"))) (aC (sub (eV 4)) (aC (sub (b2 pAdd (sub (eV 4)) (sub (eC (.str "("))))) aN))))))))))))) (R13__law_bad ca))
def R11__law_bad (ca : Nat → Addr) : M Fl :=
  (sSeq (sExpr (mApp 8 (sub (mS1 pJoin (sub (eC (.str ""))) (sub (eComp [13] (iRange1 (aC (sub (eV 9)) aN)) (setS 13) (pure true) (E1__law_bad ca))))))) (R12__law_bad ca))
def R10__law_bad (ca : Nat → Addr) : M Fl :=
  (sSeq (sSet 9 (eCallI 0 1 (m__law_draw ca) (aC (sub (eC (.int 25))) aN))) (R11__law_bad ca))
def R9__law_bad (ca : Nat → Addr) : M Fl :=
  (sSeq (sExpr (mApp 8 (sub (b2 pAdd (sub (b2 pAdd (sub (b2 pAdd (sub (b2 pAdd (sub (eV 6)) (sub (eV 4)))) (sub (eC (.str ")"))))) (sub (eV 2)))) (sub (eV 4)))))) (R10__law_bad ca))
def R8__law_bad (ca : Nat → Addr) : M Fl :=
  (sSeq (sSet 8 (b2 pAdd (sub (eV 8)) (sub (eLst (aC (sub (b2 pAdd (sub (b2 pAdd (sub (eV 1)) (sub (eC (.str ")"))))) (sub (eV 2)))) (aC (sub (b2 pAdd (sub (b2 pAdd (sub (eV 1)) (sub (eC (.str "("))))) (sub (eV 2)))) aN)))))) (R9__law_bad ca))
def R7__law_bad (ca : Nat → Addr) : M Fl :=
  (sSeq (sSet 8 (b2 pAdd (sub (eV 8)) (sub (eLst (aC (sub (b2 pAdd (sub (b2 pAdd (sub (eV 6)) (sub (eC (.str ")"))))) (sub (eV 7)))) (aC (sub (b2 pAdd (sub (b2 pAdd (sub (eV 6)) (sub (eC (.str "("))))) (sub (eV 7)))) aN)))))) (R8__law_bad ca))
def R6__law_bad (ca : Nat → Addr) : M Fl :=
  (sSeq (sSet 8 (eLst (aC (sub (b2 pAdd (sub (b2 pAdd (sub (eV 6)) (sub (eV 4)))) (sub (eV 7)))) (aC (sub (b2 pAdd (sub (b2 pAdd (sub (b2 pAdd (sub (b2 pAdd (sub (eC (.str ")"))) (sub (eV 6)))) (sub (eV 4)))) (sub (eV 7)))) (sub (eC (.str "("))))) aN)))) (R7__law_bad ca))
def R5__law_bad (ca : Nat → Addr) : M Fl :=
  (sSeq (sSet 7 (eSl (sub (eV 1)) (oI (sub (eV 5))) oO)) (R6__law_bad ca))
def R4__law_bad (ca : Nat → Addr) : M Fl :=
  (sSeq (sSet 6 (eSl (sub (eV 1)) oO (oI (sub (eV 5))))) (R5__law_bad ca))
def R3__law_bad (ca : Nat → Addr) : M Fl :=
  (sSeq (sSet 5 (eCallI 0 1 (m__law_draw ca) (aC (sub (b2 pAdd (sub (eB qLen (aC (sub (eV 1)) aN))) (sub (eC (.int 1))))) aN))) (R4__law_bad ca))
def R2__law_bad (ca : Nat → Addr) : M Fl :=
  (sSeq (sSet 4 (b2 pIx (sub (eV 3)) (sub (eCallI 0 1 (m__law_draw ca) (aC (sub (eB qLen (aC (sub (eV 3)) aN))) aN))))) (R3__law_bad ca))
def R1__law_bad (ca : Nat → Addr) : M Fl :=
  (sSeq (sSet 3 (b2 pAdd (sub (eV 3)) (sub (eC (.str "abcdefghijklmnopqrstuvwxyz{|}~"))))) (R2__law_bad ca))
def b__law_bad (ca : Nat → Addr) : M Fl :=
  (sSeq (sSet 3 (eC (.str " !\"#$&'*+,-./0123456789:;<=>?@ABCDEFGHIJKLMNOPQRSTUVWXYZ[\\]^_`"))) (R1__law_bad ca))
def m__law_bad (ca : Nat → Addr) : List Sl → R RV := runB 11 (b__law_bad ca)
def R12__law_lists (ca : Nat → Addr) : M Fl :=
  (sRet (eCall 2 (m__law_same ca) (aC (sub (eCall 1 (m__law_count ca) (aC (sub (eV 6)) aN))) (aC (sub (eLst (aC (sub (eC (.str "number"))) (aC (sub (eV 6)) (aC (sub (eC (.bl false))) aN))))) aN))))
def R11__law_lists (ca : Nat → Addr) : M Fl :=
  (sSeq (sSet 6 (b2 pIx (sub (eLst (aC (sub (b1 pNeg (sub (eC (.int 1))))) (aC (sub (eC (.int 61))) (aC (sub (b2 pSub (sub (b1 pNeg (sub (eC (.int 1))))) (sub (eV 5)))) (aC (sub (b2 pAdd (sub (eC (.int 61))) (sub (eV 5)))) aN)))))) (sub (eCallI 0 1 (m__law_draw ca) (aC (sub (eC (.int 4))) aN))))) (R12__law_lists ca))
def R10__law_lists (ca : Nat → Addr) : M Fl :=
  (sSeq (sIf (tNt (eT (sub (eCall 2 (m__law_same ca) (aC (sub (eCall 1 (m__law_list ca) (aC (sub (eV 6)) aN))) (aC (sub (eLst (aC (sub (eC (.str "number"))) (aC (sub (eV 6)) (aC (sub (eC (.bl false))) aN))))) aN)))))) (sRet (eC (.bl false))) sNil) (R11__law_lists ca))
def R9__law_lists (ca : Nat → Addr) : M Fl :=
  (sSeq (sSet 6 (b2 pIx (sub (eLst (aC (sub (b1 pNeg (sub (eC (.int 1))))) (aC (sub (eC (.int 8))) (aC (sub (b2 pSub (sub (b1 pNeg (sub (eC (.int 1))))) (sub (eV 5)))) (aC (sub (b2 pAdd (sub (eC (.int 8))) (sub (eV 5)))) aN)))))) (sub (eCallI 0 1 (m__law_draw ca) (aC (sub (eC (.int 4))) aN))))) (R10__law_lists ca))
def R8__law_lists (ca : Nat → Addr) : M Fl :=
  (sSeq (sIf (tNt (eT (sub (eCall 2 (m__law_same ca) (aC (sub (eCall 1 (m__law_count ca) (aC (sub (eV 4)) aN))) (aC (sub (eLst (aC (sub (eC (.str "told"))) (aC (sub (b2 pIx (sub (eV 3)) (sub (eV 4)))) aN)))) aN)))))) (sRet (eC (.bl false))) sNil) (R9__law_lists ca))
def R7__law_lists (ca : Nat → Addr) : M Fl :=
  (sSeq (sSet 5 (eCallI 0 1 (m__law_draw ca) (aC (sub (b2 pPow (sub (eC (.int 10))) (sub (eC (.int 20))))) aN))) (R8__law_lists ca))
def R6__law_lists (ca : Nat → Addr) : M Fl :=
  (sSeq (sSet 4 (b2 pIx (sub (eLst (aC (sub (eC (.int 0))) (aC (sub (eC (.int 60))) (aC (sub (eCallI 0 1 (m__law_draw ca) (aC (sub (eC (.int 61))) aN))) aN))))) (sub (eCallI 0 1 (m__law_draw ca) (aC (sub (eC (.int 3))) aN))))) (R7__law_lists ca))
def R5__law_lists (ca : Nat → Addr) : M Fl :=
  (sSeq (sIf (tNt (eT (sub (eCall 2 (m__law_same ca) (aC (sub (eCall 1 (m__law_count ca) (aC (sub (eV 1)) aN))) (aC (sub (eLst (aC (sub (eC (.str "told"))) (aC (sub (eB qLen (aC (sub (eV 2)) aN))) aN)))) aN)))))) (sRet (eC (.bl false))) sNil) (R6__law_lists ca))
def R4__law_lists (ca : Nat → Addr) : M Fl :=
  (sSeq (sIf (tNt (eT (sub (eCall 2 (m__law_same ca) (aC (sub (eCall 1 (m__law_list ca) (aC (sub (eV 1)) aN))) (aC (sub (eLst (aC (sub (eC (.str "told"))) (aC (sub (eV 2)) aN)))) aN)))))) (sRet (eC (.bl false))) sNil) (R5__law_lists ca))
def R3__law_lists (ca : Nat → Addr) : M Fl :=
  (sSeq (sSet 3 (eCall 1 (m__law_counts ca) (aC (sub (eC (.int 60))) aN))) (R4__law_lists ca))
def R2__law_lists (ca : Nat → Addr) : M Fl :=
  (sSeq (sSet 2 (eCall 1 (m__law_words ca) (aC (sub (eV 1)) aN))) (R3__law_lists ca))
def R1__law_lists (ca : Nat → Addr) : M Fl :=
  (sSeq (sIf (toB (b2 pEq (sub (eCallI 0 1 (m__law_draw ca) (aC (sub (eC (.int 16))) aN))) (sub (eC (.int 0))))) (sSet 1 (eC (.int 7))) sNil) (R2__law_lists ca))
def b__law_lists (ca : Nat → Addr) : M Fl :=
  (sSeq (sSet 1 (eCallI 0 1 (m__law_draw ca) (aC (sub (eC (.int 6))) aN))) (R1__law_lists ca))
def m__law_lists (ca : Nat → Addr) : List Sl → R RV := runB 6 (b__law_lists ca)
def R11_law (ca : Nat → Addr) : M Fl :=
  (sRet (eAn (eCallI 1 2 (m__law_bad ca) (aC (sub (eV 3)) (aC (sub (eV 4)) aN))) (eCallI 1 0 (m__law_lists ca) aN)))
def R10_law (ca : Nat → Addr) : M Fl :=
  (sSeq (sIf (tNt (eT (sub (eCall 2 (m__law_same ca) (aC (sub (eCall 2 (m__law_read ca) (aC (sub (eC (.int 0))) (aC (sub (eV 3)) aN)))) (aC (sub (eCall 2 (m__law_due ca) (aC (sub (eC (.int 0))) (aC (sub (eV 3)) aN)))) aN)))))) (sRet (eC (.bl false))) sNil) (R11_law ca))
def R9_law (ca : Nat → Addr) : M Fl :=
  (sSeq (sExpr (mApp 7 (sub (b2 pAdd (sub (b2 pIx (sub (eV 7)) (sub (eC (.int 0))))) (sub (eC (.int 1))))))) (R10_law ca))
def R8_law (ca : Nat → Addr) : M Fl :=
  (sSeq (sSet 7 (eCall 1 (m_tops ca) (aC (sub (eV 3)) aN))) (R9_law ca))
def R7_law (ca : Nat → Addr) : M Fl :=
  (sSeq (sIf (eT (sub (eV 5))) (sSeq (sSet 6 (eCallI 1 1 (m__law_stairs ca) (aC (sub (b2 pAdd (sub (eC (.int 40))) (sub (eCallI 1 1 (m__law_draw ca) (aC (sub (eC (.int 21))) aN))))) aN)))
  (sSeq (sIf (tNt (eT (sub (eCallI 1 1 (m__law_lane ca) (aC (sub (eV 6)) aN))))) (sRet (eC (.bl false))) sNil)
  (sIf (tO (tNt (eT (sub (eCall 1 (m__law_good ca) (aC (sub (eCallI 1 1 (m__law_word ca) (aC (sub (eC (.int 60))) aN))) aN))))) (tNt (eT (sub (eCall 1 (m__law_good ca) (aC (sub (eCallI 1 1 (m__law_word ca) (aC (sub (eC (.int 120))) aN))) aN)))))) (sRet (eC (.bl false))) sNil))) sNil) (R8_law ca))
def R6_law (ca : Nat → Addr) : M Fl :=
  (sSeq (sIf (tO (tNt (eT (sub (eCall 1 (m__law_good ca) (aC (sub (eV 3)) aN))))) (tNt (eT (sub (eCall 1 (m__law_good ca) (aC (sub (eV 4)) aN)))))) (sRet (eC (.bl false))) sNil) (R7_law ca))
def R5_law (ca : Nat → Addr) : M Fl :=
  (sSeq (sIf (tO (tNt (eT (sub (eCallI 1 1 (m__law_lane ca) (aC (sub (eV 2)) aN))))) (tNt (eT (sub (eCallI 1 1 (m__law_not_let ca) (aC (sub (eV 2)) aN)))))) (sRet (eC (.bl false))) sNil) (R6_law ca))
def R4_law (ca : Nat → Addr) : M Fl :=
  (sSeq (sSet 5 (b2 pEq (sub (eCallI 1 1 (m__law_draw ca) (aC (sub (eC (.int 8))) aN))) (sub (eC (.int 0))))) (R5_law ca))
def R3_law (ca : Nat → Addr) : M Fl :=
  (sSeq (sSet 4 (eCallI 1 1 (m__law_word ca) (aC (sub (eCallI 1 1 (m__law_draw ca) (aC (sub (eC (.int 6))) aN))) aN))) (R4_law ca))
def R2_law (ca : Nat → Addr) : M Fl :=
  (sSeq (sSet 3 (eCallI 1 1 (m__law_word ca) (aC (sub (b2 pAdd (sub (eC (.int 1))) (sub (eCallI 1 1 (m__law_draw ca) (aC (sub (eC (.int 12))) aN))))) aN))) (R3_law ca))
def R1_law (ca : Nat → Addr) : M Fl :=
  (sSeq (sSet 2 (eCallI 1 1 (m__law_stairs ca) (aC (sub (b2 pAdd (sub (eC (.int 1))) (sub (eCallI 1 1 (m__law_draw ca) (aC (sub (eC (.int 6))) aN))))) aN))) (R2_law ca))
def b_law (ca : Nat → Addr) : M Fl :=
  (sSeq (sSet 1 (eCall 1 (m__law_pool ca) (aC (sub (eV 0)) aN))) (R1_law ca))
def m_law (ca : Nat → Addr) : List Sl → R RV := runB 7 (b_law ca)
/-! what the top has written -/
structure Txt (K : PySem.W.Frag) (mg : Str → Option Value) (ad ca ia : Nat → Addr) (fd fi : Nat → FuncData) (tk : Nat → Tok) : Prop where
  g_check_number : mg "check_number" = some (.ref (ad 0))
  F_check_number : Fun K "check_number" "check_number" s_check_number (ad 0) (fd 0)
  b_check_number : Binds K (fd 0) ["number", "least", "most"] []
  g_check_size : mg "check_size" = some (.ref (ad 1))
  F_check_size : Fun K "check_size" "check_size" s_check_size (ad 1) (fd 1)
  b_check_size : Binds K (fd 1) ["count", "least", "most"] []
  g_check_letters : mg "check_letters" = some (.ref (ad 2))
  F_check_letters : Fun K "check_letters" "check_letters" s_check_letters (ad 2) (fd 2)
  b_check_letters : Binds K (fd 2) ["word", "letters"] []
  g_check_balance : mg "check_balance" = some (.ref (ad 3))
  F_check_balance : Fun K "check_balance" "check_balance" s_check_balance (ad 3) (fd 3)
  b_check_balance : Binds K (fd 3) ["word", "up", "down"] []
  g_check_brackets : mg "check_brackets" = some (.ref (ad 4))
  F_check_brackets : Fun K "check_brackets" "check_brackets" s_check_brackets (ad 4) (fd 4)
  b_check_brackets : Binds K (fd 4) ["word", "least", "most"] []
  g_heights_between : mg "heights_between" = some (.ref (ad 5))
  F_heights_between : Fun K "heights_between" "heights_between" s_heights_between (ad 5) (fd 5)
  b_heights_between : Binds K (fd 5) ["word", "before", "after"] []
  g_bracket_count : mg "bracket_count" = some (.ref (ad 6))
  F_bracket_count : Fun K "bracket_count" "bracket_count" s_bracket_count (ad 6) (fd 6)
  b_bracket_count : Binds K (fd 6) ["half"] []
  g_bracket_words : mg "bracket_words" = some (.ref (ad 7))
  F_bracket_words : Fun K "bracket_words" "bracket_words" s_bracket_words (ad 7) (fd 7)
  b_bracket_words : Binds K (fd 7) ["half"] []
  g_tops : mg "tops" = some (.ref (ad 8))
  F_tops : Fun K "tops" "tops" s_tops (ad 8) (fd 8)
  b_tops : Binds K (fd 8) ["word"] []
  g_bottoms : mg "bottoms" = some (.ref (ad 9))
  F_bottoms : Fun K "bottoms" "bottoms" s_bottoms (ad 9) (fd 9)
  b_bottoms : Binds K (fd 9) ["word"] []
  g_let_shifts : mg "let_shifts" = some (.ref (ad 10))
  F_let_shifts : Fun K "let_shifts" "let_shifts" s_let_shifts (ad 10) (fd 10)
  b_let_shifts : Binds K (fd 10) ["rule", "below", "above"] []
  g_first_not_let : mg "first_not_let" = some (.ref (ad 11))
  F_first_not_let : Fun K "first_not_let" "first_not_let" s_first_not_let (ad 11) (fd 11)
  b_first_not_let : Binds K (fd 11) ["rule", "stretches"] []
  F_Lane_init : Fun K "__init__" "Lane.__init__" s_Lane_init (ad 12) (fd 12)
  b_Lane_init : Binds K (fd 12) ["self", "stretches"] []
  g_check_staircase : mg "check_staircase" = some (.ref (ad 13))
  F_check_staircase : Fun K "check_staircase" "check_staircase" s_check_staircase (ad 13) (fd 13)
  b_check_staircase : Binds K (fd 13) ["lane"] []
  g_stair_word : mg "stair_word" = some (.ref (ad 14))
  F_stair_word : Fun K "stair_word" "stair_word" s_stair_word (ad 14) (fd 14)
  b_stair_word : Binds K (fd 14) ["lane"] []
  g_stair_of : mg "stair_of" = some (.ref (ad 15))
  F_stair_of : Fun K "stair_of" "stair_of" s_stair_of (ad 15) (fd 15)
  b_stair_of : Binds K (fd 15) ["word"] []
  g__law_pool : mg "_law_pool" = some (.ref (ad 16))
  F__law_pool : Fun K "_law_pool" "_law_pool" s__law_pool (ad 16) (fd 16)
  b__law_pool : Binds K (fd 16) ["script"] []
  g__law_draw : mg "_law_draw" = some (.ref (ad 17))
  F__law_draw : Fun K "_law_draw" "_law_draw" s__law_draw (ad 17) (fd 17)
  b__law_draw : Binds K (fd 17) ["pool", "many"] []
  g__law_same : mg "_law_same" = some (.ref (ad 18))
  F__law_same : Fun K "_law_same" "_law_same" s__law_same (ad 18) (fd 18)
  b__law_same : Binds K (fd 18) ["told", "due"] []
  g__law_stairs : mg "_law_stairs" = some (.ref (ad 19))
  F__law_stairs : Fun K "_law_stairs" "_law_stairs" s__law_stairs (ad 19) (fd 19)
  b__law_stairs : Binds K (fd 19) ["pool", "rows"] []
  g__law_word : mg "_law_word" = some (.ref (ad 20))
  F__law_word : Fun K "_law_word" "_law_word" s__law_word (ad 20) (fd 20)
  b__law_word : Binds K (fd 20) ["pool", "half"] []
  g__law_heights : mg "_law_heights" = some (.ref (ad 21))
  F__law_heights : Fun K "_law_heights" "_law_heights" s__law_heights (ad 21) (fd 21)
  b__law_heights : Binds K (fd 21) ["word", "pair"] []
  g__law_stairs_of : mg "_law_stairs_of" = some (.ref (ad 22))
  F__law_stairs_of : Fun K "_law_stairs_of" "_law_stairs_of" s__law_stairs_of (ad 22) (fd 22)
  b__law_stairs_of : Binds K (fd 22) ["word"] []
  g__law_word_of : mg "_law_word_of" = some (.ref (ad 23))
  F__law_word_of : Fun K "_law_word_of" "_law_word_of" s__law_word_of (ad 23) (fd 23)
  b__law_word_of : Binds K (fd 23) ["stairs"] []
  g__law_fault : mg "_law_fault" = some (.ref (ad 24))
  F__law_fault : Fun K "_law_fault" "_law_fault" s__law_fault (ad 24) (fd 24)
  b__law_fault : Binds K (fd 24) ["word"] []
  g__law_words : mg "_law_words" = some (.ref (ad 25))
  F__law_words : Fun K "_law_words" "_law_words" s__law_words (ad 25) (fd 25)
  b__law_words : Binds K (fd 25) ["half"] []
  g__law_counts : mg "_law_counts" = some (.ref (ad 26))
  F__law_counts : Fun K "_law_counts" "_law_counts" s__law_counts (ad 26) (fd 26)
  b__law_counts : Binds K (fd 26) ["most"] []
  g__law_read : mg "_law_read" = some (.ref (ad 27))
  F__law_read : Fun K "_law_read" "_law_read" s__law_read (ad 27) (fd 27)
  b__law_read : Binds K (fd 27) ["which", "word"] []
  g__law_due : mg "_law_due" = some (.ref (ad 28))
  F__law_due : Fun K "_law_due" "_law_due" s__law_due (ad 28) (fd 28)
  b__law_due : Binds K (fd 28) ["which", "word"] []
  g__law_lane_word : mg "_law_lane_word" = some (.ref (ad 29))
  F__law_lane_word : Fun K "_law_lane_word" "_law_lane_word" s__law_lane_word (ad 29) (fd 29)
  b__law_lane_word : Binds K (fd 29) ["lane"] []
  g__law_list : mg "_law_list" = some (.ref (ad 30))
  F__law_list : Fun K "_law_list" "_law_list" s__law_list (ad 30) (fd 30)
  b__law_list : Binds K (fd 30) ["half"] []
  g__law_count : mg "_law_count" = some (.ref (ad 31))
  F__law_count : Fun K "_law_count" "_law_count" s__law_count (ad 31) (fd 31)
  b__law_count : Binds K (fd 31) ["half"] []
  g__law_lane : mg "_law_lane" = some (.ref (ad 32))
  F__law_lane : Fun K "_law_lane" "_law_lane" s__law_lane (ad 32) (fd 32)
  b__law_lane : Binds K (fd 32) ["pool", "stairs"] []
  g__law_not_let : mg "_law_not_let" = some (.ref (ad 33))
  F__law_not_let : Fun K "_law_not_let" "_law_not_let" s__law_not_let (ad 33) (fd 33)
  b__law_not_let : Binds K (fd 33) ["pool", "stairs"] []
  g__law_good : mg "_law_good" = some (.ref (ad 34))
  F__law_good : Fun K "_law_good" "_law_good" s__law_good (ad 34) (fd 34)
  b__law_good : Binds K (fd 34) ["word"] []
  g__law_bad : mg "_law_bad" = some (.ref (ad 35))
  F__law_bad : Fun K "_law_bad" "_law_bad" s__law_bad (ad 35) (fd 35)
  b__law_bad : Binds K (fd 35) ["pool", "word", "other"] []
  g__law_lists : mg "_law_lists" = some (.ref (ad 36))
  F__law_lists : Fun K "_law_lists" "_law_lists" s__law_lists (ad 36) (fd 36)
  b__law_lists : Binds K (fd 36) ["pool"] []
  g_law : mg "law" = some (.ref (ad 37))
  F_law : Fun K "law" "law" s_law (ad 37) (fd 37)
  b_law : Binds K (fd 37) ["script"] []
  kw_stair_of : KwB K (fd 15) ["word"]
  i_comb : mg "comb" = some (.builtin "math.comb")
  gc_Lane : mg "Lane" = some (.ref (ca 5))
  in_Lane : InsC K (ca 5)
  mk_Lane : Mk K (ca 5) (ad 12)
  fld : FldT K (FT ca)
  z_abs : mg "abs" = none
  z_enumerate : mg "enumerate" = none
  z_int : mg "int" = none
  z_isinstance : mg "isinstance" = none
  z_len : mg "len" = none
  z_list : mg "list" = none
  z_max : mg "max" = none
  z_min : mg "min" = none
  z_range : mg "range" = none
  z_repr : mg "repr" = none
  z_sum : mg "sum" = none
  z_tuple : mg "tuple" = none
  c_FAR : mg "FAR" = some (.int 4000 (tk 0))
  c_MOST : mg "MOST" = some (.int 60 (tk 1))
  cd_STEPS : KDat K mg "STEPS" (.tup [(.tup [(.str "("), (.int 1)]), (.tup [(.str ")"), (.int (-1))])])
  gc_RimmachinesError : mg "RimmachinesError" = some (.ref (ca 0))
  gc_NumberError : mg "NumberError" = some (.ref (ca 1))
  gc_SizeError : mg "SizeError" = some (.ref (ca 2))
  gc_LaneError : mg "LaneError" = some (.ref (ca 3))
  gc_WordError : mg "WordError" = some (.ref (ca 4))
  ex : ExT K mg exCls exPrs exFld
  nst : NoSt K mg exCls
  oc_NumberError : OexC K (ca 1)
  ic_NumberError : PySem.W.findIn K (.ref (ca 1)) "__init__" = some (some (.ref (ia 0)))
  no_NumberError : PySem.W.findIn K (.ref (ca 1)) "number" = some none
  oc_SizeError : OexC K (ca 2)
  ic_SizeError : PySem.W.findIn K (.ref (ca 2)) "__init__" = some (some (.ref (ia 1)))
  no_SizeError : PySem.W.findIn K (.ref (ca 2)) "count" = some none
  oc_LaneError : OexC K (ca 3)
  ic_LaneError : PySem.W.findIn K (.ref (ca 3)) "__init__" = some (some (.ref (ia 2)))
  no_LaneError : PySem.W.findIn K (.ref (ca 3)) "at" = some none
  oc_WordError : OexC K (ca 4)
  ic_WordError : PySem.W.findIn K (.ref (ca 4)) "__init__" = some (some (.ref (ia 3)))
  no_WordError : PySem.W.findIn K (.ref (ca 4)) "at" = some none
  Fi_NumberError : Fun K "__init__" "NumberError.__init__" si_NumberError (ia 0) (fi 0)
  bi_NumberError : Binds K (fi 0) ["self", "number"] []
  it_NumberError : PySem.W.typeIn K (.ref (ia 0)) = some (.type "function")
  Fi_SizeError : Fun K "__init__" "SizeError.__init__" si_SizeError (ia 1) (fi 1)
  bi_SizeError : Binds K (fi 1) ["self", "count"] []
  it_SizeError : PySem.W.typeIn K (.ref (ia 1)) = some (.type "function")
  Fi_LaneError : Fun K "__init__" "LaneError.__init__" si_LaneError (ia 2) (fi 2)
  bi_LaneError : Binds K (fi 2) ["self", "at"] []
  it_LaneError : PySem.W.typeIn K (.ref (ia 2)) = some (.type "function")
  Fi_WordError : Fun K "__init__" "WordError.__init__" si_WordError (ia 3) (fi 3)
  bi_WordError : Binds K (fi 3) ["self", "at"] []
  it_WordError : PySem.W.typeIn K (.ref (ia 3)) = some (.type "function")
section
variable {P : Program} {w : World} {K : PySem.W.Frag} {mg : Str → Option Value} {base : Heap} {ad ca ia : Nat → Addr} {fd fi : Nat → FuncData} {tk : Nat → Tok}
theorem I_NumberError (T : Txt K mg ad ca ia fd fi tk) : FnOk P w K mg base CX0 1 (ia 0) (fi 0) ["self", "number"] (spInit K ["number"]) :=
  T.Fi_NumberError.ok sci_NumberError (spInit_len rfl) fun cdv A outer s H vs Q E hr h => ⟨_, pss_one (ps_ost (pv 0) (pv 1)), init1 h⟩
theorem I_SizeError (T : Txt K mg ad ca ia fd fi tk) : FnOk P w K mg base CX0 1 (ia 1) (fi 1) ["self", "count"] (spInit K ["count"]) :=
  T.Fi_SizeError.ok sci_SizeError (spInit_len rfl) fun cdv A outer s H vs Q E hr h => ⟨_, pss_one (ps_ost (pv 0) (pv 1)), init1 h⟩
theorem I_LaneError (T : Txt K mg ad ca ia fd fi tk) : FnOk P w K mg base CX0 1 (ia 2) (fi 2) ["self", "at"] (spInit K ["at"]) :=
  T.Fi_LaneError.ok sci_LaneError (spInit_len rfl) fun cdv A outer s H vs Q E hr h => ⟨_, pss_one (ps_ost (pv 0) (pv 1)), init1 h⟩
theorem I_WordError (T : Txt K mg ad ca ia fd fi tk) : FnOk P w K mg base CX0 1 (ia 3) (fi 3) ["self", "at"] (spInit K ["at"]) :=
  T.Fi_WordError.ok sci_WordError (spInit_len rfl) fun cdv A outer s H vs Q E hr h => ⟨_, pss_one (ps_ost (pv 0) (pv 1)), init1 h⟩
theorem G_heights_between (T : Txt K mg ad ca ia fd fi tk) : FnG P w K mg base 1 (ad 5) (fd 5) ["word", "before", "after"] (spF K mg (m_heights_between ca) 3) := by
  refine fnF T.F_heights_between sc_heights_between rfl rfl fun cdv A outer s H E hgd hr => ?_
  have nd := sc_heights_between.nd
  have hr : Room 0 (cxOf (L2.CX P w) P w K mg base N_heights_between "heights_between" (defScope s_heights_between) (ad 5) cdv A outer s H E).A := hr
  have tk : Takes (cxOf (L2.CX P w) P w K mg base N_heights_between "heights_between" (defScope s_heights_between) (ad 5) cdv A outer s H E) (fun cls d _ G => E cls d G) := takes_of rfl rfl rfl rfl
  unfold b_heights_between
  exact (ss_cons (st_set 3 (se_lst sa_nil) nd) (ss_cons (st_set 4 se_int nd) (ss_cons (st_set 5 se_str nd) (ss_cons (st_for (si_seq ((se_var 0)).sub) (sg_name 6 nd) (ss_cons (st_if ((sw_and (st_cmp (op_equ (by exact hr.units)) p_eq ((se_var 5)).sub ((se_var 1)).sub (nomark _)) (sw_and1 (st_cmp (op_equ (by exact hr.units)) p_eq ((se_var 6)).sub ((se_var 2)).sub (nomark _))))).tt (ss_one (st_expr (se_append 3 ((se_var 4)).sub fun t pt => pe_bm PySem.F.plainAttrs_list PySem.F.slot_list_append PySem.F.type_list_append mt_append (pv 3) (pa_cons pt pa_nil)))) ss_nil) (ss_cons (st_aug (pos' := ⟨0, 0, 0, 0⟩) 4 ip_add ((se_if (st_cmp (op_equ (by exact hr.units)) p_eq ((se_var 6)).sub (se_str).sub (nomark _)) se_int (se_un un_neg p_neg (se_int).sub))).sub nd (by rfl) (by first | exact Or.inl rfl | exact Or.inr rfl) fun _ pe => ps_aug nd (by rfl) (by first | exact Or.inl rfl | exact Or.inr rfl) pe ip_add) (ss_one (st_set 5 (se_var 6) nd)))) (passes_of (by rfl)) (by rfl)) (ss_one (st_ret (se_var 3)))))))
theorem G_let_shifts (T : Txt K mg ad ca ia fd fi tk) : FnG P w K mg base 1 (ad 10) (fd 10) ["rule", "below", "above"] (spF K mg (m_let_shifts ca) 3) := by
  refine fnF T.F_let_shifts sc_let_shifts rfl rfl fun cdv A outer s H E hgd hr => ?_
  have nd := sc_let_shifts.nd
  have hr : Room 0 (cxOf (L2.CX P w) P w K mg base N_let_shifts "let_shifts" (defScope s_let_shifts) (ad 10) cdv A outer s H E).A := hr
  have tk : Takes (cxOf (L2.CX P w) P w K mg base N_let_shifts "let_shifts" (defScope s_let_shifts) (ad 10) cdv A outer s H E) (fun cls d _ G => E cls d G) := takes_of rfl rfl rfl rfl
  unfold b_let_shifts
  exact (ss_cons (st_if (st_cmp (op_equ (by exact hr.units)) p_eq ((se_var 0)).sub (se_str).sub (nomark _)) (ss_one (st_ret (se_tup (sa_cons ((se_bin op_sub p_sub (se_int).sub ((se_var 2)).sub)).sub (sa_cons ((se_bin op_sub p_sub ((se_var 1)).sub (se_int).sub)).sub sa_nil))))) ss_nil) (ss_cons (st_if (st_cmp (op_equ (by exact hr.units)) p_eq ((se_var 0)).sub (se_str).sub (nomark _)) (ss_one (st_ret (se_tup (sa_cons (se_int).sub (sa_cons ((se_bin op_sub p_sub ((se_var 1)).sub (se_int).sub)).sub sa_nil))))) ss_nil) (ss_cons (st_if (st_cmp (op_equ (by exact hr.units)) p_eq ((se_var 0)).sub (se_str).sub (nomark _)) (ss_one (st_ret (se_tup (sa_cons ((se_callB (call_maxA (by exact hr.units) (by rfl)) q_max (by rfl) T.z_max (by decide +kernel) (sa_cons (se_int).sub (sa_cons ((se_bin op_sub p_sub ((se_var 1)).sub ((se_var 2)).sub)).sub sa_nil)))).sub (sa_cons ((se_bin op_sub p_sub ((se_var 1)).sub (se_int).sub)).sub sa_nil))))) ss_nil) (ss_cons (st_if (st_cmp (op_equ (by exact hr.units)) p_eq ((se_var 0)).sub (se_str).sub (nomark _)) (ss_one (st_ret (se_tup (sa_cons (se_int).sub (sa_cons ((se_bin op_sub p_sub ((se_var 1)).sub ((se_var 2)).sub)).sub sa_nil))))) ss_nil) (ss_one (st_ret (se_tup (sa_cons (se_int).sub (sa_cons ((se_callB (call_minA (by exact hr.units) (by rfl)) q_min (by rfl) T.z_min (by decide +kernel) (sa_cons (se_int).sub (sa_cons ((se_bin op_sub p_sub ((se_var 1)).sub ((se_var 2)).sub)).sub sa_nil)))).sub sa_nil)))))))))
theorem G__law_pool (T : Txt K mg ad ca ia fd fi tk) : FnG P w K mg base 1 (ad 16) (fd 16) ["script"] (spF K mg (m__law_pool ca) 1) := by
  refine fnF T.F__law_pool sc__law_pool rfl rfl fun cdv A outer s H E hgd hr => ?_
  have nd := sc__law_pool.nd
  have hr : Room 0 (cxOf (L2.CX P w) P w K mg base N__law_pool "_law_pool" (defScope s__law_pool) (ad 16) cdv A outer s H E).A := hr
  have tk : Takes (cxOf (L2.CX P w) P w K mg base N__law_pool "_law_pool" (defScope s__law_pool) (ad 16) cdv A outer s H E) (fun cls d _ G => E cls d G) := takes_of rfl rfl rfl rfl
  unfold b__law_pool
  exact (ss_one (st_ret (se_bin op_plus p_add ((se_lst (sa_cons (se_int).sub sa_nil))).sub ((se_comp (vs := [1]) (si_seq ((se_slice ((se_var 0)).sub so_none (so_some (se_int).sub))).sub) (fun _ _ _ _ _ => (sg_name 1 nd)) (fun _ _ _ _ _ => sts_nil) (fun _ _ _ _ _ => ((se_bin op_mod p_mod ((se_callTy call_int1 q_int (by rfl) T.z_int (by decide +kernel) (sa_cons ((se_callB call_abs q_abs (by rfl) T.z_abs (by decide +kernel) (sa_cons ((se_var 1)).sub sa_nil))).sub sa_nil))).sub ((se_bin op_pow p_pow (se_int).sub (se_int).sub)).sub)).sub) (by decide) fun _ _ _ _ pi pg pt pe => pe_lc (own := [("cell", 1)]) (by rfl) nd pi (blkOk_by (own := [("cell", 1)]) (N := N__law_pool) (sc := defScope s__law_pool) (by decide +kernel)) pg pt pe)).sub)))
theorem G__law_draw (T : Txt K mg ad ca ia fd fi tk) : FnG P w K mg base 1 (ad 17) (fd 17) ["pool", "many"] (spI K mg (m__law_draw ca) 1) := by
  refine fnI T.F__law_draw sc__law_draw rfl rfl fun cdv A outer s H E hgd hr => ?_
  have nd := sc__law_draw.nd
  have hr : Room 0 (cxOf (L2.CX P w) P w K mg base N__law_draw "_law_draw" (defScope s__law_draw) (ad 17) cdv A outer s H E).A := hr
  have tk : Takes (cxOf (L2.CX P w) P w K mg base N__law_draw "_law_draw" (defScope s__law_draw) (ad 17) cdv A outer s H E) (fun cls d _ G => E cls d G) := takes_of rfl rfl rfl rfl
  unfold b__law_draw
  exact (ss_cons (st_setIx 0 ((se_bin op_plus p_add ((se_ix ix_seq p_ix ((se_var 0)).sub (se_int).sub (fun _ _ => rfl))).sub (se_int).sub)).sub (se_int).sub fun _ _ pe pi => ps_asg pe (pg_sub (pv 0) pi set_list)) (ss_cons (st_if (st_cmp (op_equ (by exact hr.units)) p_eq ((se_callB call_lenA q_len (by rfl) T.z_len PySem.boot_len (sa_cons ((se_var 0)).sub sa_nil))).sub (se_int).sub (nomark _)) (ss_one (st_ret (se_bin op_mod p_mod ((se_callTy call_int1 q_int (by rfl) T.z_int (by decide +kernel) (sa_cons ((se_ix ix_seq p_ix ((se_var 0)).sub (se_int).sub (fun _ _ => rfl))).sub sa_nil))).sub ((se_var 1)).sub))) ss_nil) (ss_cons (st_set 2 (se_callTy call_int1 q_int (by rfl) T.z_int (by decide +kernel) (sa_cons ((se_ix ix_seq p_ix ((se_var 0)).sub (se_int).sub (fun _ _ => rfl))).sub sa_nil)) nd) (ss_cons (st_setIx 0 ((se_bin op_fdivW p_div ((se_var 2)).sub ((se_var 1)).sub)).sub (se_int).sub fun _ _ pe pi => ps_asg pe (pg_sub (pv 0) pi set_list)) (ss_cons (st_if (st_cmp (op_equ (by exact hr.units)) p_eq ((se_ix ix_seq p_ix ((se_var 0)).sub (se_int).sub (fun _ _ => rfl))).sub (se_int).sub (nomark _)) (ss_one (st_expr (se_popAt 0 (se_int).sub fun t pt => pe_bm PySem.F.plainAttrs_list PySem.F.slot_list_pop PySem.F.type_list_pop mt_popAt (pv 0) (pa_cons pt pa_nil)))) ss_nil) (ss_one (st_ret (se_bin op_mod p_mod ((se_callTy call_int1 q_int (by rfl) T.z_int (by decide +kernel) (sa_cons ((se_var 2)).sub sa_nil))).sub ((se_var 1)).sub))))))))
theorem G__law_same (T : Txt K mg ad ca ia fd fi tk) : FnG P w K mg base 1 (ad 18) (fd 18) ["told", "due"] (spF K mg (m__law_same ca) 2) := by
  refine fnF T.F__law_same sc__law_same rfl rfl fun cdv A outer s H E hgd hr => ?_
  have nd := sc__law_same.nd
  have hr : Room 0 (cxOf (L2.CX P w) P w K mg base N__law_same "_law_same" (defScope s__law_same) (ad 18) cdv A outer s H E).A := hr
  have tk : Takes (cxOf (L2.CX P w) P w K mg base N__law_same "_law_same" (defScope s__law_same) (ad 18) cdv A outer s H E) (fun cls d _ G => E cls d G) := takes_of rfl rfl rfl rfl
  unfold b__law_same
  exact (ss_one (st_ret (se_and (se_cmp (op_equ (by exact hr.units)) p_eq ((se_var 0)).sub ((se_var 1)).sub (nomark _)) (se_one (se_cmp (op_equ (by exact hr.units)) p_eq ((se_callB (call_reprA (by exact hgd) (by exact hr.units)) q_repr (by rfl) T.z_repr (by decide +kernel) (sa_cons ((se_var 0)).sub sa_nil))).sub ((se_callB (call_reprA (by exact hgd) (by exact hr.units)) q_repr (by rfl) T.z_repr (by decide +kernel) (sa_cons ((se_var 1)).sub sa_nil))).sub (nomark _))))))
theorem G__law_heights (T : Txt K mg ad ca ia fd fi tk) : FnG P w K mg base 1 (ad 21) (fd 21) ["word", "pair"] (spF K mg (m__law_heights ca) 2) := by
  refine fnF T.F__law_heights sc__law_heights rfl rfl fun cdv A outer s H E hgd hr => ?_
  have nd := sc__law_heights.nd
  have hr : Room 0 (cxOf (L2.CX P w) P w K mg base N__law_heights "_law_heights" (defScope s__law_heights) (ad 21) cdv A outer s H E).A := hr
  have tk : Takes (cxOf (L2.CX P w) P w K mg base N__law_heights "_law_heights" (defScope s__law_heights) (ad 21) cdv A outer s H E) (fun cls d _ G => E cls d G) := takes_of rfl rfl rfl rfl
  unfold b__law_heights
  exact (ss_cons (st_set 2 (se_lst sa_nil) nd) (ss_cons (st_for (si_range2 (by rfl) T.z_range (sa_cons (se_int).sub (sa_cons ((se_callB call_lenA q_len (by rfl) T.z_len PySem.boot_len (sa_cons ((se_var 0)).sub sa_nil))).sub sa_nil))) (sg_name 3 nd) (ss_one (st_if (st_cmp (op_equ (by exact hr.units)) p_eq ((se_slice ((se_var 0)).sub (so_some ((se_bin op_sub p_sub ((se_var 3)).sub (se_int).sub)).sub) (so_some ((se_bin op_plus p_add ((se_var 3)).sub (se_int).sub)).sub))).sub ((se_var 1)).sub (nomark _)) (ss_one (st_expr (se_append 2 ((se_bin op_sub p_sub ((se_count ((se_slice ((se_var 0)).sub so_none (so_some ((se_var 3)).sub))).sub (se_str).sub)).sub ((se_count ((se_slice ((se_var 0)).sub so_none (so_some ((se_var 3)).sub))).sub (se_str).sub)).sub)).sub fun t pt => pe_bm PySem.F.plainAttrs_list PySem.F.slot_list_append PySem.F.type_list_append mt_append (pv 2) (pa_cons pt pa_nil)))) ss_nil)) (passes_of (by rfl)) (by rfl)) (ss_one (st_ret (se_var 2)))))
theorem G__law_word_of (T : Txt K mg ad ca ia fd fi tk) : FnG P w K mg base 1 (ad 23) (fd 23) ["stairs"] (spF K mg (m__law_word_of ca) 1) := by
  refine fnF T.F__law_word_of sc__law_word_of rfl rfl fun cdv A outer s H E hgd hr => ?_
  have nd := sc__law_word_of.nd
  have hr : Room 0 (cxOf (L2.CX P w) P w K mg base N__law_word_of "_law_word_of" (defScope s__law_word_of) (ad 23) cdv A outer s H E).A := hr
  have tk : Takes (cxOf (L2.CX P w) P w K mg base N__law_word_of "_law_word_of" (defScope s__law_word_of) (ad 23) cdv A outer s H E) (fun cls d _ G => E cls d G) := takes_of rfl rfl rfl rfl
  unfold b__law_word_of
  exact (ss_cons (st_set 1 (se_bin op_repS p_repS (se_str).sub ((se_ix ix_seq p_ix ((se_ix ix_seq p_ix ((se_var 0)).sub (se_int).sub (fun _ _ => rfl))).sub (se_int).sub (fun _ _ => rfl))).sub) nd) (ss_cons (st_for (si_range1 (by rfl) T.z_range (sa_cons ((se_bin op_sub p_sub ((se_callB call_lenA q_len (by rfl) T.z_len PySem.boot_len (sa_cons ((se_var 0)).sub sa_nil))).sub (se_int).sub)).sub sa_nil)) (sg_name 2 nd) (ss_cons (st_set 3 (se_ix ix_seq p_ix ((se_var 0)).sub ((se_var 2)).sub (fun _ _ => rfl)) nd) (ss_cons (st_set 4 (se_ix ix_seq p_ix ((se_var 0)).sub ((se_bin op_plus p_add ((se_var 2)).sub (se_int).sub)).sub (fun _ _ => rfl)) nd) (ss_cons (st_set 5 (se_bin op_sub p_sub ((se_bin op_sub p_sub ((se_bin op_plus p_add ((se_ix ix_seq p_ix ((se_var 3)).sub (se_int).sub (fun _ _ => rfl))).sub ((se_ix ix_seq p_ix ((se_var 3)).sub (se_int).sub (fun _ _ => rfl))).sub)).sub ((se_ix ix_seq p_ix ((se_var 4)).sub (se_int).sub (fun _ _ => rfl))).sub)).sub (se_int).sub) nd) (ss_one (st_set 1 (se_bin op_plus p_add ((se_bin op_plus p_add ((se_var 1)).sub ((se_bin op_repS p_repS (se_str).sub ((se_bin op_sub p_sub ((se_ix ix_seq p_ix ((se_var 3)).sub (se_int).sub (fun _ _ => rfl))).sub ((se_var 5)).sub)).sub)).sub)).sub ((se_bin op_repS p_repS (se_str).sub ((se_bin op_sub p_sub ((se_ix ix_seq p_ix ((se_var 4)).sub (se_int).sub (fun _ _ => rfl))).sub ((se_var 5)).sub)).sub)).sub) nd))))) (passes_of (by rfl)) (by rfl)) (ss_one (st_ret (se_bin op_plus p_add ((se_var 1)).sub ((se_bin op_repS p_repS (se_str).sub ((se_ix ix_seq p_ix ((se_ix ix_seq p_ix ((se_var 0)).sub ((se_un un_neg p_neg (se_int).sub)).sub (fun _ _ => rfl))).sub (se_int).sub (fun _ _ => rfl))).sub)).sub)))))
theorem G__law_fault (T : Txt K mg ad ca ia fd fi tk) : FnG P w K mg base 1 (ad 24) (fd 24) ["word"] (spF K mg (m__law_fault ca) 1) := by
  refine fnF T.F__law_fault sc__law_fault rfl rfl fun cdv A outer s H E hgd hr => ?_
  have nd := sc__law_fault.nd
  have hr : Room 0 (cxOf (L2.CX P w) P w K mg base N__law_fault "_law_fault" (defScope s__law_fault) (ad 24) cdv A outer s H E).A := hr
  have tk : Takes (cxOf (L2.CX P w) P w K mg base N__law_fault "_law_fault" (defScope s__law_fault) (ad 24) cdv A outer s H E) (fun cls d _ G => E cls d G) := takes_of rfl rfl rfl rfl
  unfold b__law_fault
  exact (ss_cons (st_setLc 1 (vs := [3]) (si_range1 (by rfl) T.z_range (sa_cons ((se_callB call_lenA q_len (by rfl) T.z_len PySem.boot_len (sa_cons ((se_var 0)).sub sa_nil))).sub sa_nil)) (fun _ _ _ _ _ => (sg_name 3 nd)) (fun _ _ _ _ _ => (sts_one (st_cmp (op_notInA (by exact hu_of hr)) p_notIn ((se_ix ix_seq p_ix ((se_var 0)).sub ((se_var 3)).sub (fun _ _ => rfl))).sub (se_str).sub (by rfl)))) (fun _ _ _ _ _ => ((se_var 3)).sub) (by decide) fun _ _ _ _ pi pg pt pe => ps_setLc (own := [("k", 3)]) (by rfl) nd (by rfl) (by rfl) (sw_true (by rfl) (by rfl) (by rfl) (by decide +kernel)) pi (blkOk_by (own := [("k", 3)]) (N := N__law_fault) (sc := defScope s__law_fault) (by decide +kernel)) pg pt pe) (ss_cons (st_if (st_tru ((se_var 1)).sub) (ss_one (st_ret (se_ix ix_seq p_ix ((se_var 1)).sub (se_int).sub (fun _ _ => rfl)))) ss_nil) (ss_cons (st_set 2 se_int nd) (ss_cons (st_for (si_range1 (by rfl) T.z_range (sa_cons ((se_callB call_lenA q_len (by rfl) T.z_len PySem.boot_len (sa_cons ((se_var 0)).sub sa_nil))).sub sa_nil)) (sg_name 3 nd) (ss_cons (st_if ((sw_and (st_cmp (op_equ (by exact hr.units)) p_eq ((se_ix ix_seq p_ix ((se_var 0)).sub ((se_var 3)).sub (fun _ _ => rfl))).sub (se_str).sub (nomark _)) (sw_and1 (st_cmp (op_equ (by exact hr.units)) p_eq ((se_var 2)).sub (se_int).sub (nomark _))))).tt (ss_one (st_ret (se_var 3))) ss_nil) (ss_one (st_set 2 (se_bin op_sub p_sub ((se_bin op_plus p_add ((se_var 2)).sub (se_int).sub)).sub ((se_bin op_times p_mul (se_int).sub ((se_callTy call_int1 q_int (by rfl) T.z_int (by decide +kernel) (sa_cons ((se_cmp (op_equ (by exact hr.units)) p_eq ((se_ix ix_seq p_ix ((se_var 0)).sub ((se_var 3)).sub (fun _ _ => rfl))).sub (se_str).sub (nomark _))).sub sa_nil))).sub)).sub) nd))) (passes_of (by rfl)) (by rfl)) (ss_cons (st_if (st_cmp op_gt p_ord ((se_var 2)).sub (se_int).sub (nomark _)) (ss_one (st_ret (se_callB call_lenA q_len (by rfl) T.z_len PySem.boot_len (sa_cons ((se_var 0)).sub sa_nil)))) ss_nil) (ss_one (st_ret (se_un un_neg p_neg (se_int).sub))))))))
theorem G__law_words (T : Txt K mg ad ca ia fd fi tk) : FnG P w K mg base 1 (ad 25) (fd 25) ["half"] (spF K mg (m__law_words ca) 1) := by
  refine fnF T.F__law_words sc__law_words rfl rfl fun cdv A outer s H E hgd hr => ?_
  have nd := sc__law_words.nd
  have hr : Room 0 (cxOf (L2.CX P w) P w K mg base N__law_words "_law_words" (defScope s__law_words) (ad 25) cdv A outer s H E).A := hr
  have tk : Takes (cxOf (L2.CX P w) P w K mg base N__law_words "_law_words" (defScope s__law_words) (ad 25) cdv A outer s H E) (fun cls d _ G => E cls d G) := takes_of rfl rfl rfl rfl
  unfold b__law_words
  exact (ss_cons (st_set 1 (se_lst (sa_cons (se_str).sub sa_nil)) nd) (ss_cons (st_for (si_range1 (by rfl) T.z_range (sa_cons ((se_bin op_times p_mul (se_int).sub ((se_var 0)).sub)).sub sa_nil)) (sg_name 2 nd) (ss_cons (st_set 3 (se_lst sa_nil) nd) (ss_cons (st_for (si_seq ((se_callTy call_list_of q_list (by rfl) T.z_list (by decide +kernel) (sa_cons ((se_var 1)).sub sa_nil))).sub) (sg_name 4 nd) (ss_cons (st_set 5 (se_count ((se_var 4)).sub (se_str).sub) nd) (ss_cons (st_if (st_cmp op_lt p_ord ((se_var 5)).sub ((se_var 0)).sub (nomark _)) (ss_one (st_expr (se_append 3 ((se_bin op_plus p_add ((se_var 4)).sub (se_str).sub)).sub fun t pt => pe_bm PySem.F.plainAttrs_list PySem.F.slot_list_append PySem.F.type_list_append mt_append (pv 3) (pa_cons pt pa_nil)))) ss_nil) (ss_one (st_if (st_cmp op_lt p_ord ((se_count ((se_var 4)).sub (se_str).sub)).sub ((se_var 5)).sub (nomark _)) (ss_one (st_expr (se_append 3 ((se_bin op_plus p_add ((se_var 4)).sub (se_str).sub)).sub fun t pt => pe_bm PySem.F.plainAttrs_list PySem.F.slot_list_append PySem.F.type_list_append mt_append (pv 3) (pa_cons pt pa_nil)))) ss_nil)))) (passes_of (by rfl)) (by rfl)) (ss_one (st_set 1 (se_var 3) nd)))) (passes_of (by rfl)) (by rfl)) (ss_one (st_ret (se_var 1)))))
theorem G__law_counts (T : Txt K mg ad ca ia fd fi tk) : FnG P w K mg base 1 (ad 26) (fd 26) ["most"] (spF K mg (m__law_counts ca) 1) := by
  refine fnF T.F__law_counts sc__law_counts rfl rfl fun cdv A outer s H E hgd hr => ?_
  have nd := sc__law_counts.nd
  have hr : Room 0 (cxOf (L2.CX P w) P w K mg base N__law_counts "_law_counts" (defScope s__law_counts) (ad 26) cdv A outer s H E).A := hr
  have tk : Takes (cxOf (L2.CX P w) P w K mg base N__law_counts "_law_counts" (defScope s__law_counts) (ad 26) cdv A outer s H E) (fun cls d _ G => E cls d G) := takes_of rfl rfl rfl rfl
  unfold b__law_counts
  exact (ss_cons (st_set 1 (se_lst (sa_cons (se_int).sub sa_nil)) nd) (ss_cons (st_for (si_range1 (by rfl) T.z_range (sa_cons ((se_var 0)).sub sa_nil)) (sg_name 2 nd) (ss_one (st_expr (se_append 1 ((se_callB (cr_sum (by rfl)) q_sum (by rfl) T.z_sum (by decide +kernel) (sa_cons ((se_comp (vs := [3]) (si_range1 (by rfl) T.z_range (sa_cons ((se_bin op_plus p_add ((se_var 2)).sub (se_int).sub)).sub sa_nil)) (fun _ _ _ _ _ => (sg_name 3 nd)) (fun _ _ _ _ _ => sts_nil) (fun _ _ _ _ _ => ((se_bin op_times p_mul ((se_ix ix_seq p_ix ((se_var 1)).sub ((se_var 3)).sub (fun _ _ => rfl))).sub ((se_ix ix_seq p_ix ((se_var 1)).sub ((se_bin op_sub p_sub ((se_var 2)).sub ((se_var 3)).sub)).sub (fun _ _ => rfl))).sub)).sub) (by decide) fun _ _ _ _ pi pg pt pe => pe_lc (own := [("k", 3)]) (by rfl) nd pi (blkOk_by (own := [("k", 3)]) (N := N__law_counts) (sc := defScope s__law_counts) (by decide +kernel)) pg pt pe)).sub sa_nil))).sub fun t pt => pe_bm PySem.F.plainAttrs_list PySem.F.slot_list_append PySem.F.type_list_append mt_append (pv 1) (pa_cons pt pa_nil)))) (passes_of (by rfl)) (by rfl)) (ss_one (st_ret (se_var 1)))))
theorem G_first_not_let (T : Txt K mg ad ca ia fd fi tk) : FnG P w K mg base 2 (ad 11) (fd 11) ["rule", "stretches"] (spF K mg (m_first_not_let ca) 2) := by
  refine fnF T.F_first_not_let sc_first_not_let rfl rfl fun cdv A outer s H E hgd hr => ?_
  have nd := sc_first_not_let.nd
  have hr : Room 1 (cxOf (L2.CX P w) P w K mg base N_first_not_let "first_not_let" (defScope s_first_not_let) (ad 11) cdv A outer s H E).A := hr
  have tk : Takes (cxOf (L2.CX P w) P w K mg base N_first_not_let "first_not_let" (defScope s_first_not_let) (ad 11) cdv A outer s H E) (fun cls d _ G => E cls d G) := takes_of rfl rfl rfl rfl
  unfold b_first_not_let
  exact (ss_cons (st_for (si_range2 (by rfl) T.z_range (sa_cons (se_int).sub (sa_cons ((se_callB call_lenA q_len (by rfl) T.z_len PySem.boot_len (sa_cons ((se_var 1)).sub sa_nil))).sub sa_nil))) (sg_name 2 nd) (ss_cons (st_asg ((se_ix ix_seq p_ix ((se_var 1)).sub ((se_bin op_sub p_sub ((se_var 2)).sub (se_int).sub)).sub (fun _ _ => rfl))).sub (sg_tup (by rfl) (sgs_cons (sg_name 3 nd) (sgs_cons (sg_name 4 nd) sgs_nil))) (pb := fun _ _ pe pg => ps_asg pe pg)) (ss_cons (st_asg ((se_ix ix_seq p_ix ((se_var 1)).sub ((se_var 2)).sub (fun _ _ => rfl))).sub (sg_tup (by rfl) (sgs_cons (sg_name 5 nd) (sgs_cons (sg_name 6 nd) sgs_nil))) (pb := fun _ _ pe pg => ps_asg pe pg)) (ss_cons (st_asg ((se_call (G_let_shifts T) (by exact hgd) (by exact hr.mono (by decide)) (by exact tk) T.g_let_shifts T.F_let_shifts.kp T.b_let_shifts (by rfl) (sa_cons ((se_var 0)).sub (sa_cons ((se_var 4)).sub (sa_cons ((se_var 6)).sub sa_nil))))).sub (sg_tup (by rfl) (sgs_cons (sg_name 7 nd) (sgs_cons (sg_name 8 nd) sgs_nil))) (pb := fun _ _ pe pg => ps_asg pe pg)) (ss_one (st_if ((sw_or (st_cmp op_lt p_ord ((se_bin op_sub p_sub ((se_var 5)).sub ((se_var 3)).sub)).sub ((se_var 7)).sub (nomark _)) (sw_or1 (st_cmp op_gt p_ord ((se_bin op_sub p_sub ((se_var 5)).sub ((se_var 3)).sub)).sub ((se_var 8)).sub (nomark _))))).tt (ss_one (st_ret (se_var 2))) ss_nil))))) (passes_of (by rfl)) (by rfl)) (ss_one (st_ret se_non)))
theorem G__law_stairs (T : Txt K mg ad ca ia fd fi tk) : FnG P w K mg base 2 (ad 19) (fd 19) ["pool", "rows"] (spI K mg (m__law_stairs ca) 1) := by
  refine fnI T.F__law_stairs sc__law_stairs rfl rfl fun cdv A outer s H E hgd hr => ?_
  have nd := sc__law_stairs.nd
  have hr : Room 1 (cxOf (L2.CX P w) P w K mg base N__law_stairs "_law_stairs" (defScope s__law_stairs) (ad 19) cdv A outer s H E).A := hr
  have tk : Takes (cxOf (L2.CX P w) P w K mg base N__law_stairs "_law_stairs" (defScope s__law_stairs) (ad 19) cdv A outer s H E) (fun cls d _ G => E cls d G) := takes_of rfl rfl rfl rfl
  unfold b__law_stairs
  exact (ss_cons (st_set 2 se_int nd) (ss_cons (st_set 3 (se_bin op_plus p_add (se_int).sub ((se_callI 0 (G__law_draw T) (by exact hgd) (by exact hr.mono (by decide)) (by exact tk) T.g__law_draw T.F__law_draw.kp T.b__law_draw (by rfl) (sa_cons (se_int).sub sa_nil))).sub) nd) (ss_cons (st_set 4 (se_lst (sa_cons ((se_tup (sa_cons (se_int).sub (sa_cons ((se_var 3)).sub sa_nil)))).sub sa_nil)) nd) (ss_cons (st_for (si_range1 (by rfl) T.z_range (sa_cons ((se_bin op_sub p_sub ((se_var 1)).sub (se_int).sub)).sub sa_nil)) (sg_name 5 nd) (ss_cons (st_set 6 (se_callI 0 (G__law_draw T) (by exact hgd) (by exact hr.mono (by decide)) (by exact tk) T.g__law_draw T.F__law_draw.kp T.b__law_draw (by rfl) (sa_cons ((se_var 3)).sub sa_nil)) nd) (ss_cons (st_set 7 (se_callB (call_minA (by exact hr.units) (by rfl)) q_min (by rfl) T.z_min (by decide +kernel) (sa_cons ((se_bin op_plus p_add ((se_bin op_plus p_add ((se_var 2)).sub ((se_var 3)).sub)).sub ((se_callI 0 (G__law_draw T) (by exact hgd) (by exact hr.mono (by decide)) (by exact tk) T.g__law_draw T.F__law_draw.kp T.b__law_draw (by rfl) (sa_cons (se_int).sub sa_nil))).sub)).sub (sa_cons (se_int).sub sa_nil))) nd) (ss_cons (st_set 2 (se_bin op_plus p_add ((se_var 2)).sub ((se_var 6)).sub) nd) (ss_cons (st_set 3 (se_bin op_sub p_sub ((se_var 7)).sub ((se_var 2)).sub) nd) (ss_one (st_expr (se_append 4 ((se_tup (sa_cons ((se_var 2)).sub (sa_cons ((se_var 3)).sub sa_nil)))).sub fun t pt => pe_bm PySem.F.plainAttrs_list PySem.F.slot_list_append PySem.F.type_list_append mt_append (pv 4) (pa_cons pt pa_nil)))))))) (passes_of (by rfl)) (by rfl)) (ss_one (st_ret (se_var 4)))))))
theorem G__law_word (T : Txt K mg ad ca ia fd fi tk) : FnG P w K mg base 2 (ad 20) (fd 20) ["pool", "half"] (spI K mg (m__law_word ca) 1) := by
  refine fnI T.F__law_word sc__law_word rfl rfl fun cdv A outer s H E hgd hr => ?_
  have nd := sc__law_word.nd
  have hr : Room 1 (cxOf (L2.CX P w) P w K mg base N__law_word "_law_word" (defScope s__law_word) (ad 20) cdv A outer s H E).A := hr
  have tk : Takes (cxOf (L2.CX P w) P w K mg base N__law_word "_law_word" (defScope s__law_word) (ad 20) cdv A outer s H E) (fun cls d _ G => E cls d G) := takes_of rfl rfl rfl rfl
  unfold b__law_word
  exact (ss_cons (st_set 2 se_str nd) (ss_cons (st_set 3 se_int nd) (ss_cons (st_set 4 se_int nd) (ss_cons (st_for (si_range1 (by rfl) T.z_range (sa_cons ((se_bin op_times p_mul (se_int).sub ((se_var 1)).sub)).sub sa_nil)) (sg_name 5 nd) (ss_cons (st_set 6 (se_cmp (op_equ (by exact hr.units)) p_eq ((se_callI 0 (G__law_draw T) (by exact hgd) (by exact hr.mono (by decide)) (by exact tk) T.g__law_draw T.F__law_draw.kp T.b__law_draw (by rfl) (sa_cons (se_int).sub sa_nil))).sub (se_int).sub (nomark _)) nd) (ss_one (st_if ((sw_or (st_cmp (op_equ (by exact hr.units)) p_eq ((se_var 3)).sub (se_int).sub (nomark _)) (sw_or1 ((sw_and (st_tru ((se_var 6)).sub) (sw_and1 (st_cmp op_lt p_ord ((se_var 4)).sub ((se_var 1)).sub (nomark _))))).tt))).tt (ss_cons (st_set 2 (se_bin op_plus p_add ((se_var 2)).sub (se_str).sub) nd) (ss_cons (st_set 3 (se_bin op_plus p_add ((se_var 3)).sub (se_int).sub) nd) (ss_one (st_set 4 (se_bin op_plus p_add ((se_var 4)).sub (se_int).sub) nd)))) (ss_cons (st_set 2 (se_bin op_plus p_add ((se_var 2)).sub (se_str).sub) nd) (ss_one (st_set 3 (se_bin op_sub p_sub ((se_var 3)).sub (se_int).sub) nd)))))) (passes_of (by rfl)) (by rfl)) (ss_one (st_ret (se_var 2)))))))
theorem G__law_stairs_of (T : Txt K mg ad ca ia fd fi tk) : FnG P w K mg base 2 (ad 22) (fd 22) ["word"] (spF K mg (m__law_stairs_of ca) 1) := by
  refine fnF T.F__law_stairs_of sc__law_stairs_of rfl rfl fun cdv A outer s H E hgd hr => ?_
  have nd := sc__law_stairs_of.nd
  have hr : Room 1 (cxOf (L2.CX P w) P w K mg base N__law_stairs_of "_law_stairs_of" (defScope s__law_stairs_of) (ad 22) cdv A outer s H E).A := hr
  have tk : Takes (cxOf (L2.CX P w) P w K mg base N__law_stairs_of "_law_stairs_of" (defScope s__law_stairs_of) (ad 22) cdv A outer s H E) (fun cls d _ G => E cls d G) := takes_of rfl rfl rfl rfl
  unfold b__law_stairs_of
  exact (ss_cons (st_set 1 (se_call (G__law_heights T) (by exact hgd) (by exact hr.mono (by decide)) (by exact tk) T.g__law_heights T.F__law_heights.kp T.b__law_heights (by rfl) (sa_cons ((se_var 0)).sub (sa_cons (se_str).sub sa_nil))) nd) (ss_cons (st_set 2 (se_call (G__law_heights T) (by exact hgd) (by exact hr.mono (by decide)) (by exact tk) T.g__law_heights T.F__law_heights.kp T.b__law_heights (by rfl) (sa_cons ((se_var 0)).sub (sa_cons (se_str).sub sa_nil))) nd) (ss_cons (st_set 3 (se_lst (sa_cons ((se_tup (sa_cons (se_int).sub (sa_cons ((se_ix ix_seq p_ix ((se_var 1)).sub (se_int).sub (fun _ _ => rfl))).sub sa_nil)))).sub sa_nil)) nd) (ss_cons (st_for (si_range1 (by rfl) T.z_range (sa_cons ((se_callB call_lenA q_len (by rfl) T.z_len PySem.boot_len (sa_cons ((se_var 2)).sub sa_nil))).sub sa_nil)) (sg_name 4 nd) (ss_cons (st_set 5 (se_bin op_plus p_add ((se_ix ix_seq p_ix ((se_ix ix_seq p_ix ((se_var 3)).sub ((se_un un_neg p_neg (se_int).sub)).sub (fun _ _ => rfl))).sub (se_int).sub (fun _ _ => rfl))).sub ((se_ix ix_seq p_ix ((se_ix ix_seq p_ix ((se_var 3)).sub ((se_un un_neg p_neg (se_int).sub)).sub (fun _ _ => rfl))).sub (se_int).sub (fun _ _ => rfl))).sub) nd) (ss_one (st_expr (se_append 3 ((se_tup (sa_cons ((se_bin op_sub p_sub ((se_bin op_sub p_sub ((se_var 5)).sub ((se_ix ix_seq p_ix ((se_var 2)).sub ((se_var 4)).sub (fun _ _ => rfl))).sub)).sub (se_int).sub)).sub (sa_cons ((se_ix ix_seq p_ix ((se_var 1)).sub ((se_bin op_plus p_add ((se_var 4)).sub (se_int).sub)).sub (fun _ _ => rfl))).sub sa_nil)))).sub fun t pt => pe_bm PySem.F.plainAttrs_list PySem.F.slot_list_append PySem.F.type_list_append mt_append (pv 3) (pa_cons pt pa_nil))))) (passes_of (by rfl)) (by rfl)) (ss_one (st_ret (se_var 3)))))))
theorem G_check_number (T : Txt K mg ad ca ia fd fi tk) : FnG P w K mg base 3 (ad 0) (fd 0) ["number", "least", "most"] (spF K mg (m_check_number ca) 3) := by
  refine fnF T.F_check_number sc_check_number rfl rfl fun cdv A outer s H E hgd hr => ?_
  have nd := sc_check_number.nd
  have hr : Room 2 (cxOf (L2.CX P w) P w K mg base N_check_number "check_number" (defScope s_check_number) (ad 0) cdv A outer s H E).A := hr
  have tk : Takes (cxOf (L2.CX P w) P w K mg base N_check_number "check_number" (defScope s_check_number) (ad 0) cdv A outer s H E) (fun cls d _ G => E cls d G) := takes_of rfl rfl rfl rfl
  unfold b_check_number
  exact (ss_one (st_if ((sw_or (st_cmp op_lt p_ord ((se_var 0)).sub ((se_var 1)).sub (nomark _)) (sw_or1 (st_cmp op_gt p_ord ((se_var 0)).sub ((se_var 2)).sub (nomark _))))).tt (ss_one (st_raise T.oc_NumberError T.ic_NumberError T.it_NumberError (I_NumberError T) (by intro f hf; rw [List.mem_singleton] at hf; subst hf; exact T.no_NumberError) (hr.mono (by decide)) T.bi_NumberError tk (by rfl) (by rfl) T.gc_NumberError (sa_cons ((se_var 0)).sub sa_nil) (by decide))) ss_nil))
theorem O_check_number (T : Txt K mg ad ca ia fd fi tk) : FnOk P w K mg base (L2.CX P w) 3 (ad 0) (fd 0) ["number", "least", "most"] (spF K mg (m_check_number ca) 3) := by
  refine fnOkF T.F_check_number sc_check_number rfl rfl fun cdv A outer s H E hr => ?_
  have nd := sc_check_number.nd
  have hr : Room 2 (cxOf (L2.CX P w) P w K mg base N_check_number "check_number" (defScope s_check_number) (ad 0) cdv A outer s H E).A := hr
  have tk : Takes (cxOf (L2.CX P w) P w K mg base N_check_number "check_number" (defScope s_check_number) (ad 0) cdv A outer s H E) (fun cls d _ G => E cls d G) := takes_of rfl rfl rfl rfl
  unfold b_check_number
  exact (ss_one (st_if ((sw_or (st_cmp op_lt p_ord ((se_var 0)).sub ((se_var 1)).sub (nomark _)) (sw_or1 (st_cmp op_gt p_ord ((se_var 0)).sub ((se_var 2)).sub (nomark _))))).tt (ss_one (st_raise T.oc_NumberError T.ic_NumberError T.it_NumberError (I_NumberError T) (by intro f hf; rw [List.mem_singleton] at hf; subst hf; exact T.no_NumberError) (hr.mono (by decide)) T.bi_NumberError tk (by rfl) (by rfl) T.gc_NumberError (sa_cons ((se_var 0)).sub sa_nil) (by decide))) ss_nil))
theorem G_check_size (T : Txt K mg ad ca ia fd fi tk) : FnG P w K mg base 3 (ad 1) (fd 1) ["count", "least", "most"] (spF K mg (m_check_size ca) 3) := by
  refine fnF T.F_check_size sc_check_size rfl rfl fun cdv A outer s H E hgd hr => ?_
  have nd := sc_check_size.nd
  have hr : Room 2 (cxOf (L2.CX P w) P w K mg base N_check_size "check_size" (defScope s_check_size) (ad 1) cdv A outer s H E).A := hr
  have tk : Takes (cxOf (L2.CX P w) P w K mg base N_check_size "check_size" (defScope s_check_size) (ad 1) cdv A outer s H E) (fun cls d _ G => E cls d G) := takes_of rfl rfl rfl rfl
  unfold b_check_size
  exact (ss_one (st_if ((sw_or (st_cmp op_lt p_ord ((se_var 0)).sub ((se_var 1)).sub (nomark _)) (sw_or1 (st_cmp op_gt p_ord ((se_var 0)).sub ((se_var 2)).sub (nomark _))))).tt (ss_one (st_raise T.oc_SizeError T.ic_SizeError T.it_SizeError (I_SizeError T) (by intro f hf; rw [List.mem_singleton] at hf; subst hf; exact T.no_SizeError) (hr.mono (by decide)) T.bi_SizeError tk (by rfl) (by rfl) T.gc_SizeError (sa_cons ((se_var 0)).sub sa_nil) (by decide))) ss_nil))
theorem G_check_letters (T : Txt K mg ad ca ia fd fi tk) : FnG P w K mg base 3 (ad 2) (fd 2) ["word", "letters"] (spF K mg (m_check_letters ca) 2) := by
  refine fnF T.F_check_letters sc_check_letters rfl rfl fun cdv A outer s H E hgd hr => ?_
  have nd := sc_check_letters.nd
  have hr : Room 2 (cxOf (L2.CX P w) P w K mg base N_check_letters "check_letters" (defScope s_check_letters) (ad 2) cdv A outer s H E).A := hr
  have tk : Takes (cxOf (L2.CX P w) P w K mg base N_check_letters "check_letters" (defScope s_check_letters) (ad 2) cdv A outer s H E) (fun cls d _ G => E cls d G) := takes_of rfl rfl rfl rfl
  unfold b_check_letters
  exact (ss_one (st_for (si_enum1 (by rfl) T.z_enumerate (sa_cons ((se_var 0)).sub sa_nil)) (sg_tup (by rfl) (sgs_cons (sg_name 2 nd) (sgs_cons (sg_name 3 nd) sgs_nil))) (ss_one (st_if (st_cmp (op_notInA (by exact hu_of hr)) p_notIn ((se_var 3)).sub ((se_var 1)).sub (by rfl)) (ss_one (st_raise T.oc_WordError T.ic_WordError T.it_WordError (I_WordError T) (by intro f hf; rw [List.mem_singleton] at hf; subst hf; exact T.no_WordError) (hr.mono (by decide)) T.bi_WordError tk (by rfl) (by rfl) T.gc_WordError (sa_cons ((se_var 2)).sub sa_nil) (by decide))) ss_nil)) (passes_of (by rfl)) (by rfl)))
theorem G_check_balance (T : Txt K mg ad ca ia fd fi tk) : FnG P w K mg base 3 (ad 3) (fd 3) ["word", "up", "down"] (spF K mg (m_check_balance ca) 3) := by
  refine fnF T.F_check_balance sc_check_balance rfl rfl fun cdv A outer s H E hgd hr => ?_
  have nd := sc_check_balance.nd
  have hr : Room 2 (cxOf (L2.CX P w) P w K mg base N_check_balance "check_balance" (defScope s_check_balance) (ad 3) cdv A outer s H E).A := hr
  have tk : Takes (cxOf (L2.CX P w) P w K mg base N_check_balance "check_balance" (defScope s_check_balance) (ad 3) cdv A outer s H E) (fun cls d _ G => E cls d G) := takes_of rfl rfl rfl rfl
  unfold b_check_balance
  exact (ss_cons (st_set 3 se_int nd) (ss_cons (st_for (si_enum1 (by rfl) T.z_enumerate (sa_cons ((se_var 0)).sub sa_nil)) (sg_tup (by rfl) (sgs_cons (sg_name 4 nd) (sgs_cons (sg_name 5 nd) sgs_nil))) (ss_cons (st_if (st_cmp (op_equ (by exact hr.units)) p_eq ((se_var 5)).sub ((se_var 1)).sub (nomark _)) (ss_one (st_aug (pos' := ⟨0, 0, 0, 0⟩) 3 ip_add (se_int).sub nd (by rfl) (by first | exact Or.inl rfl | exact Or.inr rfl) fun _ pe => ps_aug nd (by rfl) (by first | exact Or.inl rfl | exact Or.inr rfl) pe ip_add)) ss_nil) (ss_one (st_if (st_cmp (op_equ (by exact hr.units)) p_eq ((se_var 5)).sub ((se_var 2)).sub (nomark _)) (ss_cons (st_if (st_cmp (op_equ (by exact hr.units)) p_eq ((se_var 3)).sub (se_int).sub (nomark _)) (ss_one (st_raise T.oc_WordError T.ic_WordError T.it_WordError (I_WordError T) (by intro f hf; rw [List.mem_singleton] at hf; subst hf; exact T.no_WordError) (hr.mono (by decide)) T.bi_WordError tk (by rfl) (by rfl) T.gc_WordError (sa_cons ((se_var 4)).sub sa_nil) (by decide))) ss_nil) (ss_one (st_aug (pos' := ⟨0, 0, 0, 0⟩) 3 ip_sub (se_int).sub nd (by rfl) (by first | exact Or.inl rfl | exact Or.inr rfl) fun _ pe => ps_aug nd (by rfl) (by first | exact Or.inl rfl | exact Or.inr rfl) pe ip_sub))) ss_nil))) (passes_of (by rfl)) (by rfl)) (ss_one (st_if (st_cmp op_gt p_ord ((se_var 3)).sub (se_int).sub (nomark _)) (ss_one (st_raise T.oc_WordError T.ic_WordError T.it_WordError (I_WordError T) (by intro f hf; rw [List.mem_singleton] at hf; subst hf; exact T.no_WordError) (hr.mono (by decide)) T.bi_WordError tk (by rfl) (by rfl) T.gc_WordError (sa_cons ((se_callB call_lenA q_len (by rfl) T.z_len PySem.boot_len (sa_cons ((se_var 0)).sub sa_nil))).sub sa_nil) (by decide))) ss_nil))))
theorem G_check_staircase (T : Txt K mg ad ca ia fd fi tk) : FnG P w K mg base 3 (ad 13) (fd 13) ["lane"] (spF K mg (m_check_staircase ca) 1) := by
  refine fnF T.F_check_staircase sc_check_staircase rfl rfl fun cdv A outer s H E hgd hr => ?_
  have nd := sc_check_staircase.nd
  have hr : Room 2 (cxOf (L2.CX P w) P w K mg base N_check_staircase "check_staircase" (defScope s_check_staircase) (ad 13) cdv A outer s H E).A := hr
  have tk : Takes (cxOf (L2.CX P w) P w K mg base N_check_staircase "check_staircase" (defScope s_check_staircase) (ad 13) cdv A outer s H E) (fun cls d _ G => E cls d G) := takes_of rfl rfl rfl rfl
  unfold b_check_staircase
  exact (ss_cons (st_set 1 (se_call (G_first_not_let T) (by exact hgd) (by exact hr.mono (by decide)) (by exact tk) T.g_first_not_let T.F_first_not_let.kp T.b_first_not_let (by rfl) (sa_cons (se_str).sub (sa_cons ((se_fld T.fld ((se_var 0)).sub)).sub sa_nil))) nd) (ss_one (st_if (st_cmp op_notN p_notN ((se_var 1)).sub (se_non).sub (nomark _)) (ss_one (st_raise T.oc_LaneError T.ic_LaneError T.it_LaneError (I_LaneError T) (by intro f hf; rw [List.mem_singleton] at hf; subst hf; exact T.no_LaneError) (hr.mono (by decide)) T.bi_LaneError tk (by rfl) (by rfl) T.gc_LaneError (sa_cons ((se_var 1)).sub sa_nil) (by decide))) ss_nil)))
theorem G__law_due (T : Txt K mg ad ca ia fd fi tk) : FnG P w K mg base 3 (ad 28) (fd 28) ["which", "word"] (spF K mg (m__law_due ca) 2) := by
  refine fnF T.F__law_due sc__law_due rfl rfl fun cdv A outer s H E hgd hr => ?_
  have nd := sc__law_due.nd
  have hr : Room 2 (cxOf (L2.CX P w) P w K mg base N__law_due "_law_due" (defScope s__law_due) (ad 28) cdv A outer s H E).A := hr
  have tk : Takes (cxOf (L2.CX P w) P w K mg base N__law_due "_law_due" (defScope s__law_due) (ad 28) cdv A outer s H E) (fun cls d _ G => E cls d G) := takes_of rfl rfl rfl rfl
  unfold b__law_due
  exact (ss_cons (st_set 2 (se_ix ix_seq p_ix ((se_lst (sa_cons (se_int).sub (sa_cons (se_int).sub (sa_cons (se_int).sub sa_nil))))).sub ((se_var 0)).sub (fun _ _ => rfl)) nd) (ss_cons (st_if ((sw_or (st_cmp op_gt p_ord ((se_callB call_lenA q_len (by rfl) T.z_len PySem.boot_len (sa_cons ((se_var 1)).sub sa_nil))).sub ((se_var 2)).sub (nomark _)) (sw_or1 ((sw_and (st_cmp (op_equ (by exact hr.units)) p_eq ((se_var 0)).sub (se_int).sub (nomark _)) (sw_and1 (st_cmp op_lt p_ord ((se_callB call_lenA q_len (by rfl) T.z_len PySem.boot_len (sa_cons ((se_var 1)).sub sa_nil))).sub (se_int).sub (nomark _))))).tt))).tt (ss_one (st_ret (se_lst (sa_cons (se_str).sub (sa_cons ((se_callB call_lenA q_len (by rfl) T.z_len PySem.boot_len (sa_cons ((se_var 1)).sub sa_nil))).sub (sa_cons (se_bl).sub sa_nil)))))) ss_nil) (ss_cons (st_set 3 (se_call (G__law_fault T) (by exact hgd) (by exact hr.mono (by decide)) (by exact tk) T.g__law_fault T.F__law_fault.kp T.b__law_fault (by rfl) (sa_cons ((se_var 1)).sub sa_nil)) nd) (ss_cons (st_if (st_cmp op_ge p_ord ((se_var 3)).sub (se_int).sub (nomark _)) (ss_one (st_ret (se_lst (sa_cons (se_str).sub (sa_cons ((se_var 3)).sub (sa_cons (se_bl).sub sa_nil)))))) ss_nil) (ss_cons (st_if (st_cmp (op_equ (by exact hr.units)) p_eq ((se_var 0)).sub (se_int).sub (nomark _)) (ss_one (st_ret (se_lst (sa_cons (se_str).sub (sa_cons ((se_callTy call_tuple_of q_tuple (by rfl) T.z_tuple (by decide +kernel) (sa_cons ((se_call (G__law_stairs_of T) (by exact hgd) (by exact hr.mono (by decide)) (by exact tk) T.g__law_stairs_of T.F__law_stairs_of.kp T.b__law_stairs_of (by rfl) (sa_cons ((se_var 1)).sub sa_nil))).sub sa_nil))).sub sa_nil))))) ss_nil) (ss_one (st_ret (se_lst (sa_cons (se_str).sub (sa_cons ((se_call (G__law_heights T) (by exact hgd) (by exact hr.mono (by decide)) (by exact tk) T.g__law_heights T.F__law_heights.kp T.b__law_heights (by rfl) (sa_cons ((se_var 1)).sub (sa_cons ((se_ix ix_seq p_ix ((se_lst (sa_cons (se_str).sub (sa_cons (se_str).sub sa_nil)))).sub ((se_var 0)).sub (fun _ _ => rfl))).sub sa_nil)))).sub sa_nil))))))))))
theorem G_check_brackets (T : Txt K mg ad ca ia fd fi tk) : FnG P w K mg base 4 (ad 4) (fd 4) ["word", "least", "most"] (spF K mg (m_check_brackets ca) 3) := by
  refine fnF T.F_check_brackets sc_check_brackets rfl rfl fun cdv A outer s H E hgd hr => ?_
  have nd := sc_check_brackets.nd
  have hr : Room 3 (cxOf (L2.CX P w) P w K mg base N_check_brackets "check_brackets" (defScope s_check_brackets) (ad 4) cdv A outer s H E).A := hr
  have tk : Takes (cxOf (L2.CX P w) P w K mg base N_check_brackets "check_brackets" (defScope s_check_brackets) (ad 4) cdv A outer s H E) (fun cls d _ G => E cls d G) := takes_of rfl rfl rfl rfl
  unfold b_check_brackets
  exact (ss_cons (st_expr (se_call (G_check_size T) (by exact hgd) (by exact hr.mono (by decide)) (by exact tk) T.g_check_size T.F_check_size.kp T.b_check_size (by rfl) (sa_cons ((se_callB call_lenA q_len (by rfl) T.z_len PySem.boot_len (sa_cons ((se_var 0)).sub sa_nil))).sub (sa_cons ((se_var 1)).sub (sa_cons ((se_var 2)).sub sa_nil))))) (ss_cons (st_expr (se_call (G_check_letters T) (by exact hgd) (by exact hr.mono (by decide)) (by exact tk) T.g_check_letters T.F_check_letters.kp T.b_check_letters (by rfl) (sa_cons ((se_var 0)).sub (sa_cons (se_str).sub sa_nil)))) (ss_one (st_expr (se_call (G_check_balance T) (by exact hgd) (by exact hr.mono (by decide)) (by exact tk) T.g_check_balance T.F_check_balance.kp T.b_check_balance (by rfl) (sa_cons ((se_var 0)).sub (sa_cons (se_str).sub (sa_cons (se_str).sub sa_nil))))))))
theorem G_bracket_count (T : Txt K mg ad ca ia fd fi tk) : FnG P w K mg base 4 (ad 6) (fd 6) ["half"] (spF K mg (m_bracket_count ca) 1) := by
  refine fnF T.F_bracket_count sc_bracket_count rfl rfl fun cdv A outer s H E hgd hr => ?_
  have nd := sc_bracket_count.nd
  have hr : Room 3 (cxOf (L2.CX P w) P w K mg base N_bracket_count "bracket_count" (defScope s_bracket_count) (ad 6) cdv A outer s H E).A := hr
  have tk : Takes (cxOf (L2.CX P w) P w K mg base N_bracket_count "bracket_count" (defScope s_bracket_count) (ad 6) cdv A outer s H E) (fun cls d _ G => E cls d G) := takes_of rfl rfl rfl rfl
  unfold b_bracket_count
  exact (ss_cons (st_expr (se_call (G_check_number T) (by exact hgd) (by exact hr.mono (by decide)) (by exact tk) T.g_check_number T.F_check_number.kp T.b_check_number (by rfl) (sa_cons ((se_var 0)).sub (sa_cons (se_int).sub (sa_cons (se_int).sub sa_nil))))) (ss_one (st_ret (se_bin op_fdivW p_div ((se_callBf cr_comb q_comb (by rfl) T.i_comb (sa_cons ((se_bin op_times p_mul (se_int).sub ((se_var 0)).sub)).sub (sa_cons ((se_var 0)).sub sa_nil)))).sub ((se_bin op_plus p_add ((se_var 0)).sub (se_int).sub)).sub))))
theorem G_bracket_words (T : Txt K mg ad ca ia fd fi tk) : GFn P w K mg base 4 (ad 7) (fd 7) ["half"] (spGen K mg (m_bracket_words ca) 1) := by
  refine gnF T.F_bracket_words sc_bracket_words rfl rfl fun cdv A outer s H E pn hr => ?_
  have nd := sc_bracket_words.nd
  have hr : Room 3 (gcxOf P w K mg base N_bracket_words "bracket_words" (defScope s_bracket_words) (ad 7) cdv A outer s H E pn).A := hr
  have tk : Takes (gcxOf P w K mg base N_bracket_words "bracket_words" (defScope s_bracket_words) (ad 7) cdv A outer s H E pn) (fun cls d _ G => E cls d G) := takes_gcx
  unfold b_bracket_words
  exact (gb_cons (st_expr (se_callK (O_check_number T) (by exact hr.mono (by decide)) (by exact tk) T.g_check_number T.F_check_number.kp T.b_check_number (by rfl) (sa_cons ((se_var 0)).sub (sa_cons (se_int).sub (sa_cons (se_int).sub sa_nil))))) (gb_cons (st_set 1 (se_lst (sa_cons ((se_tup (sa_cons (se_str).sub (sa_cons (se_int).sub sa_nil)))).sub sa_nil)) nd) (gb_cons (st_for (si_range3 (by rfl) T.z_range (sa_cons ((se_bin op_sub p_sub ((se_bin op_times p_mul (se_int).sub ((se_var 0)).sub)).sub (se_int).sub)).sub (sa_cons ((se_un un_neg p_neg (se_int).sub)).sub (sa_cons ((se_un un_neg p_neg (se_int).sub)).sub sa_nil)))) (sg_name 2 nd) (ss_one (st_setLc2 1 (vs := [3, 5, 6, 7]) (vs1 := [6, 7]) (si_seq ((se_var 1)).sub) (fun _ _ _ _ _ => (sg_tup (by rfl) (sgs_cons (sg_name 3 nd) (sgs_cons (sg_name 5 nd) sgs_nil)))) (fun _ _ _ _ _ => sts_nil) (fun _ _ _ _ _ => (si_seq ((se_globD (by rfl) T.cd_STEPS)).sub)) (fun _ _ _ _ _ => (sg_tup (by rfl) (sgs_cons (sg_name 6 nd) (sgs_cons (sg_name 7 nd) sgs_nil)))) (fun _ _ _ _ _ => (sts_one (st_chain op_le op_le p_ord p_ord (se_int).sub ((se_bin op_plus p_add ((se_var 5)).sub ((se_var 7)).sub)).sub ((se_var 2)).sub))) (fun _ _ _ _ _ => ((se_tup (sa_cons ((se_bin op_plus p_add ((se_var 3)).sub ((se_var 6)).sub)).sub (sa_cons ((se_bin op_plus p_add ((se_var 5)).sub ((se_var 7)).sub)).sub sa_nil)))).sub) (by decide) (by decide) fun _ _ _ _ _ _ _ pi pg pt pi1 pg1 pt1 pe => ps_setLc2 (own := [("word", 3), ("height", 5), ("letter", 6), ("step", 7)]) (by rfl) nd (by rfl) (by rfl) (sw_true (by rfl) (by rfl) (by rfl) (by decide +kernel)) pi (blkOk_by (own := [("word", 3), ("height", 5), ("letter", 6), ("step", 7)]) (N := N_bracket_words) (sc := defScope s_bracket_words) (by decide +kernel)) (by decide) pg pt pi1 pg1 pt1 pe)) owns_gcx (by rfl)) (gb_for (si_seq ((se_var 1)).sub) (sg_tup (by rfl) (sgs_cons (sg_name 3 nd) (sgs_cons (sg_name 4 nd) sgs_nil))) ((se_var 3)).sub owns_gcx (by rfl)))))
theorem G_Lane_init (T : Txt K mg ad ca ia fd fi tk) : FnG P w K mg base 4 (ad 12) (fd 12) ["self", "stretches"] (spI K mg (m_Lane_init ca) 1) := by
  refine fnI T.F_Lane_init sc_Lane_init rfl rfl fun cdv A outer s H E hgd hr => ?_
  have nd := sc_Lane_init.nd
  have hr : Room 3 (cxOf (L2.CX P w) P w K mg base N_Lane_init "Lane.__init__" (defScope s_Lane_init) (ad 12) cdv A outer s H E).A := hr
  have tk : Takes (cxOf (L2.CX P w) P w K mg base N_Lane_init "Lane.__init__" (defScope s_Lane_init) (ad 12) cdv A outer s H E) (fun cls d _ G => E cls d G) := takes_of rfl rfl rfl rfl
  unfold b_Lane_init
  exact (ss_cons (st_expr (se_call (G_check_size T) (by exact hgd) (by exact hr.mono (by decide)) (by exact tk) T.g_check_size T.F_check_size.kp T.b_check_size (by rfl) (sa_cons ((se_callB call_lenA q_len (by rfl) T.z_len PySem.boot_len (sa_cons ((se_var 1)).sub sa_nil))).sub (sa_cons (se_int).sub (sa_cons ((se_glob (d := .int 60) (v := .int 60) (by rfl) T.c_MOST ⟨_, rfl⟩ (fun _ => .int _))).sub sa_nil))))) (ss_cons (st_for (si_seq ((se_var 1)).sub) (sg_tup (by rfl) (sgs_cons (sg_name 2 nd) (sgs_cons (sg_name 3 nd) sgs_nil))) (ss_cons (st_expr (se_call (G_check_number T) (by exact hgd) (by exact hr.mono (by decide)) (by exact tk) T.g_check_number T.F_check_number.kp T.b_check_number (by rfl) (sa_cons ((se_var 2)).sub (sa_cons ((se_un un_neg p_neg ((se_glob (d := .int 4000) (v := .int 4000) (by rfl) T.c_FAR ⟨_, rfl⟩ (fun _ => .int _))).sub)).sub (sa_cons ((se_glob (d := .int 4000) (v := .int 4000) (by rfl) T.c_FAR ⟨_, rfl⟩ (fun _ => .int _))).sub sa_nil))))) (ss_one (st_expr (se_call (G_check_number T) (by exact hgd) (by exact hr.mono (by decide)) (by exact tk) T.g_check_number T.F_check_number.kp T.b_check_number (by rfl) (sa_cons ((se_var 3)).sub (sa_cons (se_int).sub (sa_cons ((se_glob (d := .int 60) (v := .int 60) (by rfl) T.c_MOST ⟨_, rfl⟩ (fun _ => .int _))).sub sa_nil))))))) (passes_of (by rfl)) (by rfl)) (ss_cons (st_set 4 (se_call (G_first_not_let T) (by exact hgd) (by exact hr.mono (by decide)) (by exact tk) T.g_first_not_let T.F_first_not_let.kp T.b_first_not_let (by rfl) (sa_cons (se_str).sub (sa_cons ((se_var 1)).sub sa_nil))) nd) (ss_cons (st_if (st_cmp op_notN p_notN ((se_var 4)).sub (se_non).sub (nomark _)) (ss_one (st_raise T.oc_LaneError T.ic_LaneError T.it_LaneError (I_LaneError T) (by intro f hf; rw [List.mem_singleton] at hf; subst hf; exact T.no_LaneError) (hr.mono (by decide)) T.bi_LaneError tk (by rfl) (by rfl) T.gc_LaneError (sa_cons ((se_var 4)).sub sa_nil) (by decide))) ss_nil) (ss_cons (st_set 5 (se_ix ix_seq p_ix ((se_ix ix_seq p_ix ((se_var 1)).sub (se_int).sub (fun _ _ => rfl))).sub (se_int).sub (fun _ _ => rfl)) nd) (ss_cons (st_fld 0 T.fld ((se_callTy call_tuple_of q_tuple (by rfl) T.z_tuple (by decide +kernel) (sa_cons ((se_comp (vs := [2, 3]) (si_seq ((se_var 1)).sub) (fun _ _ _ _ _ => (sg_tup (by rfl) (sgs_cons (sg_name 2 nd) (sgs_cons (sg_name 3 nd) sgs_nil)))) (fun _ _ _ _ _ => sts_nil) (fun _ _ _ _ _ => ((se_tup (sa_cons ((se_bin op_sub p_sub ((se_var 2)).sub ((se_var 5)).sub)).sub (sa_cons ((se_var 3)).sub sa_nil)))).sub) (by decide) fun _ _ _ _ pi pg pt pe => pe_lc (own := [("first", 2), ("length", 3)]) (by rfl) nd pi (blkOk_by (own := [("first", 2), ("length", 3)]) (N := N_Lane_init) (sc := defScope s_Lane_init) (by decide +kernel)) pg pt pe)).sub sa_nil))).sub) (ss_one (st_fld 0 T.fld ((se_callB call_lenA q_len (by rfl) T.z_len PySem.boot_len (sa_cons ((se_fld T.fld ((se_var 0)).sub)).sub sa_nil))).sub))))))))
theorem G_stair_word (T : Txt K mg ad ca ia fd fi tk) : FnG P w K mg base 4 (ad 14) (fd 14) ["lane"] (spF K mg (m_stair_word ca) 1) := by
  refine fnF T.F_stair_word sc_stair_word rfl rfl fun cdv A outer s H E hgd hr => ?_
  have nd := sc_stair_word.nd
  have hr : Room 3 (cxOf (L2.CX P w) P w K mg base N_stair_word "stair_word" (defScope s_stair_word) (ad 14) cdv A outer s H E).A := hr
  have tk : Takes (cxOf (L2.CX P w) P w K mg base N_stair_word "stair_word" (defScope s_stair_word) (ad 14) cdv A outer s H E) (fun cls d _ G => E cls d G) := takes_of rfl rfl rfl rfl
  unfold b_stair_word
  exact (ss_cons (st_expr (se_call (G_check_staircase T) (by exact hgd) (by exact hr.mono (by decide)) (by exact tk) T.g_check_staircase T.F_check_staircase.kp T.b_check_staircase (by rfl) (sa_cons ((se_var 0)).sub sa_nil))) (ss_cons (st_asg ((se_ix ix_seq p_ix ((se_fld T.fld ((se_var 0)).sub)).sub (se_int).sub (fun _ _ => rfl))).sub (sg_tup (by rfl) (sgs_cons (sg_name 1 nd) (sgs_cons (sg_name 2 nd) sgs_nil))) (pb := fun _ _ pe pg => ps_asg pe pg)) (ss_cons (st_set 3 (se_lst (sa_cons ((se_bin op_repS p_repS (se_str).sub ((se_var 2)).sub)).sub sa_nil)) nd) (ss_cons (st_for (si_seq ((se_slice ((se_fld T.fld ((se_var 0)).sub)).sub (so_some (se_int).sub) so_none)).sub) (sg_tup (by rfl) (sgs_cons (sg_name 4 nd) (sgs_cons (sg_name 5 nd) sgs_nil))) (ss_cons (st_set 6 (se_bin op_sub p_sub ((se_bin op_sub p_sub ((se_bin op_plus p_add ((se_var 1)).sub ((se_var 2)).sub)).sub ((se_var 4)).sub)).sub (se_int).sub) nd) (ss_cons (st_expr (se_append 3 ((se_bin op_plus p_add ((se_bin op_repS p_repS (se_str).sub ((se_bin op_sub p_sub ((se_var 2)).sub ((se_var 6)).sub)).sub)).sub ((se_bin op_repS p_repS (se_str).sub ((se_bin op_sub p_sub ((se_var 5)).sub ((se_var 6)).sub)).sub)).sub)).sub fun t pt => pe_bm PySem.F.plainAttrs_list PySem.F.slot_list_append PySem.F.type_list_append mt_append (pv 3) (pa_cons pt pa_nil))) (ss_cons (st_set 1 (se_var 4) nd) (ss_one (st_set 2 (se_var 5) nd))))) (passes_of (by rfl)) (by rfl)) (ss_cons (st_expr (se_append 3 ((se_bin op_repS p_repS (se_str).sub ((se_var 2)).sub)).sub fun t pt => pe_bm PySem.F.plainAttrs_list PySem.F.slot_list_append PySem.F.type_list_append mt_append (pv 3) (pa_cons pt pa_nil))) (ss_one (st_ret (se_join (se_str).sub ((se_var 3)).sub))))))))
theorem G_tops (T : Txt K mg ad ca ia fd fi tk) : FnG P w K mg base 5 (ad 8) (fd 8) ["word"] (spF K mg (m_tops ca) 1) := by
  refine fnF T.F_tops sc_tops rfl rfl fun cdv A outer s H E hgd hr => ?_
  have nd := sc_tops.nd
  have hr : Room 4 (cxOf (L2.CX P w) P w K mg base N_tops "tops" (defScope s_tops) (ad 8) cdv A outer s H E).A := hr
  have tk : Takes (cxOf (L2.CX P w) P w K mg base N_tops "tops" (defScope s_tops) (ad 8) cdv A outer s H E) (fun cls d _ G => E cls d G) := takes_of rfl rfl rfl rfl
  unfold b_tops
  exact (ss_cons (st_expr (se_call (G_check_brackets T) (by exact hgd) (by exact hr.mono (by decide)) (by exact tk) T.g_check_brackets T.F_check_brackets.kp T.b_check_brackets (by rfl) (sa_cons ((se_var 0)).sub (sa_cons (se_int).sub (sa_cons (se_int).sub sa_nil))))) (ss_one (st_ret (se_call (G_heights_between T) (by exact hgd) (by exact hr.mono (by decide)) (by exact tk) T.g_heights_between T.F_heights_between.kp T.b_heights_between (by rfl) (sa_cons ((se_var 0)).sub (sa_cons (se_str).sub (sa_cons (se_str).sub sa_nil)))))))
theorem G_bottoms (T : Txt K mg ad ca ia fd fi tk) : FnG P w K mg base 5 (ad 9) (fd 9) ["word"] (spF K mg (m_bottoms ca) 1) := by
  refine fnF T.F_bottoms sc_bottoms rfl rfl fun cdv A outer s H E hgd hr => ?_
  have nd := sc_bottoms.nd
  have hr : Room 4 (cxOf (L2.CX P w) P w K mg base N_bottoms "bottoms" (defScope s_bottoms) (ad 9) cdv A outer s H E).A := hr
  have tk : Takes (cxOf (L2.CX P w) P w K mg base N_bottoms "bottoms" (defScope s_bottoms) (ad 9) cdv A outer s H E) (fun cls d _ G => E cls d G) := takes_of rfl rfl rfl rfl
  unfold b_bottoms
  exact (ss_cons (st_expr (se_call (G_check_brackets T) (by exact hgd) (by exact hr.mono (by decide)) (by exact tk) T.g_check_brackets T.F_check_brackets.kp T.b_check_brackets (by rfl) (sa_cons ((se_var 0)).sub (sa_cons (se_int).sub (sa_cons (se_int).sub sa_nil))))) (ss_one (st_ret (se_call (G_heights_between T) (by exact hgd) (by exact hr.mono (by decide)) (by exact tk) T.g_heights_between T.F_heights_between.kp T.b_heights_between (by rfl) (sa_cons ((se_var 0)).sub (sa_cons (se_str).sub (sa_cons (se_str).sub sa_nil)))))))
theorem G__law_lane_word (T : Txt K mg ad ca ia fd fi tk) : FnG P w K mg base 5 (ad 29) (fd 29) ["lane"] (spF K mg (m__law_lane_word ca) 1) := by
  refine fnF T.F__law_lane_word sc__law_lane_word rfl rfl fun cdv A outer s H E hgd hr => ?_
  have nd := sc__law_lane_word.nd
  have hr : Room 4 (cxOf (L2.CX P w) P w K mg base N__law_lane_word "_law_lane_word" (defScope s__law_lane_word) (ad 29) cdv A outer s H E).A := hr
  have tk : Takes (cxOf (L2.CX P w) P w K mg base N__law_lane_word "_law_lane_word" (defScope s__law_lane_word) (ad 29) cdv A outer s H E) (fun cls d _ G => E cls d G) := takes_of rfl rfl rfl rfl
  unfold b__law_lane_word
  exact (ss_cons (st_try (by rfl) (by rfl) nd tk (fun w pn xe tk po => (ss_one (st_set 1 (se_call (G_stair_word T) (by exact hgd) (by exact hr.mono (by decide)) (by exact tk) T.g_stair_word T.F_stair_word.kp T.b_stair_word (by rfl) (sa_cons ((se_var 0)).sub sa_nil)) nd))) (.cons ⟨by rfl, by decide, .inl T.gc_LaneError⟩ ⟨by rfl, by rfl⟩ (fun n C b hn hb => T.ex.exm hn T.gc_LaneError hb) (fun a oe cls d pn er hz hf => (ss_one (st_ret (se_lst (sa_cons (se_str).sub (sa_cons ((se_xf 2 T.ex hz hf)).sub (sa_cons ((se_isL 2 T.ex (.cons (by rfl) T.gc_NumberError (by decide) (by rfl) (.cons (by rfl) T.gc_SizeError (by decide) (by rfl) (.cons (by rfl) T.gc_WordError (by decide) (by rfl) .nil))) hz hf (by rfl) T.z_isinstance (by show 3 ≤ 1000; decide))).sub sa_nil))))))) (.cons ⟨by rfl, by decide, .inl T.gc_RimmachinesError⟩ trivial (fun n C b hn hb => T.ex.exm hn T.gc_RimmachinesError hb) (fun a oe cls d pn er hz hf => (ss_one (st_ret (se_lst (sa_cons (se_str).sub sa_nil))))) .nil))) (ss_one (st_ret (se_lst (sa_cons (se_str).sub (sa_cons ((se_var 1)).sub sa_nil))))))
theorem G__law_count (T : Txt K mg ad ca ia fd fi tk) : FnG P w K mg base 5 (ad 31) (fd 31) ["half"] (spF K mg (m__law_count ca) 1) := by
  refine fnF T.F__law_count sc__law_count rfl rfl fun cdv A outer s H E hgd hr => ?_
  have nd := sc__law_count.nd
  have hr : Room 4 (cxOf (L2.CX P w) P w K mg base N__law_count "_law_count" (defScope s__law_count) (ad 31) cdv A outer s H E).A := hr
  have tk : Takes (cxOf (L2.CX P w) P w K mg base N__law_count "_law_count" (defScope s__law_count) (ad 31) cdv A outer s H E) (fun cls d _ G => E cls d G) := takes_of rfl rfl rfl rfl
  unfold b__law_count
  exact (ss_cons (st_try (by rfl) (by rfl) nd tk (fun w pn xe tk po => (ss_one (st_set 1 (se_call (G_bracket_count T) (by exact hgd) (by exact hr.mono (by decide)) (by exact tk) T.g_bracket_count T.F_bracket_count.kp T.b_bracket_count (by rfl) (sa_cons ((se_var 0)).sub sa_nil)) nd))) (.cons ⟨by rfl, by decide, .inl T.gc_NumberError⟩ ⟨by rfl, by rfl⟩ (fun n C b hn hb => T.ex.exm hn T.gc_NumberError hb) (fun a oe cls d pn er hz hf => (ss_one (st_ret (se_lst (sa_cons (se_str).sub (sa_cons ((se_xf 2 T.ex hz hf)).sub (sa_cons ((se_isL 2 T.ex (.cons (by rfl) T.gc_LaneError (by decide) (by rfl) (.cons (by rfl) T.gc_SizeError (by decide) (by rfl) (.cons (by rfl) T.gc_WordError (by decide) (by rfl) .nil))) hz hf (by rfl) T.z_isinstance (by show 3 ≤ 1000; decide))).sub sa_nil))))))) (.cons ⟨by rfl, by decide, .inl T.gc_RimmachinesError⟩ trivial (fun n C b hn hb => T.ex.exm hn T.gc_RimmachinesError hb) (fun a oe cls d pn er hz hf => (ss_one (st_ret (se_lst (sa_cons (se_str).sub sa_nil))))) .nil))) (ss_one (st_ret (se_lst (sa_cons (se_str).sub (sa_cons ((se_var 1)).sub sa_nil))))))
theorem G_stair_of (T : Txt K mg ad ca ia fd fi tk) : FnG P w K mg base 6 (ad 15) (fd 15) ["word"] (spF K mg (m_stair_of ca) 1) := by
  refine fnF T.F_stair_of sc_stair_of rfl rfl fun cdv A outer s H E hgd hr => ?_
  have nd := sc_stair_of.nd
  have hr : Room 5 (cxOf (L2.CX P w) P w K mg base N_stair_of "stair_of" (defScope s_stair_of) (ad 15) cdv A outer s H E).A := hr
  have tk : Takes (cxOf (L2.CX P w) P w K mg base N_stair_of "stair_of" (defScope s_stair_of) (ad 15) cdv A outer s H E) (fun cls d _ G => E cls d G) := takes_of rfl rfl rfl rfl
  unfold b_stair_of
  exact (ss_cons (st_expr (se_call (G_check_brackets T) (by exact hgd) (by exact hr.mono (by decide)) (by exact tk) T.g_check_brackets T.F_check_brackets.kp T.b_check_brackets (by rfl) (sa_cons ((se_var 0)).sub (sa_cons (se_int).sub (sa_cons (se_int).sub sa_nil))))) (ss_cons (st_set 1 (se_call (G_heights_between T) (by exact hgd) (by exact hr.mono (by decide)) (by exact tk) T.g_heights_between T.F_heights_between.kp T.b_heights_between (by rfl) (sa_cons ((se_var 0)).sub (sa_cons (se_str).sub (sa_cons (se_str).sub sa_nil)))) nd) (ss_cons (st_set 2 se_int nd) (ss_cons (st_set 3 (se_lst (sa_cons ((se_tup (sa_cons ((se_var 2)).sub (sa_cons ((se_ix ix_seq p_ix ((se_var 1)).sub (se_int).sub (fun _ _ => rfl))).sub sa_nil)))).sub sa_nil)) nd) (ss_cons (st_for (si_enum1 (by rfl) T.z_enumerate (sa_cons ((se_call (G_heights_between T) (by exact hgd) (by exact hr.mono (by decide)) (by exact tk) T.g_heights_between T.F_heights_between.kp T.b_heights_between (by rfl) (sa_cons ((se_var 0)).sub (sa_cons (se_str).sub (sa_cons (se_str).sub sa_nil))))).sub sa_nil)) (sg_tup (by rfl) (sgs_cons (sg_name 4 nd) (sgs_cons (sg_name 5 nd) sgs_nil))) (ss_cons (st_aug (pos' := ⟨0, 0, 0, 0⟩) 2 ip_add ((se_bin op_sub p_sub ((se_bin op_sub p_sub ((se_ix ix_seq p_ix ((se_var 1)).sub ((se_var 4)).sub (fun _ _ => rfl))).sub ((se_var 5)).sub)).sub (se_int).sub)).sub nd (by rfl) (by first | exact Or.inl rfl | exact Or.inr rfl) fun _ pe => ps_aug nd (by rfl) (by first | exact Or.inl rfl | exact Or.inr rfl) pe ip_add) (ss_one (st_expr (se_append 3 ((se_tup (sa_cons ((se_var 2)).sub (sa_cons ((se_ix ix_seq p_ix ((se_var 1)).sub ((se_bin op_plus p_add ((se_var 4)).sub (se_int).sub)).sub (fun _ _ => rfl))).sub sa_nil)))).sub fun t pt => pe_bm PySem.F.plainAttrs_list PySem.F.slot_list_append PySem.F.type_list_append mt_append (pv 3) (pa_cons pt pa_nil))))) (passes_of (by rfl)) (by rfl)) (ss_one (st_ret (se_make T.mk_Lane (G_Lane_init T) (by exact hgd) (by exact hr.mono (by decide)) (by exact tk) T.gc_Lane T.b_Lane_init (by rfl) (sa_cons ((se_var 3)).sub sa_nil)))))))))
theorem G__law_not_let (T : Txt K mg ad ca ia fd fi tk) : FnG P w K mg base 6 (ad 33) (fd 33) ["pool", "stairs"] (spI K mg (m__law_not_let ca) 1) := by
  refine fnI T.F__law_not_let sc__law_not_let rfl rfl fun cdv A outer s H E hgd hr => ?_
  have nd := sc__law_not_let.nd
  have hr : Room 5 (cxOf (L2.CX P w) P w K mg base N__law_not_let "_law_not_let" (defScope s__law_not_let) (ad 33) cdv A outer s H E).A := hr
  have tk : Takes (cxOf (L2.CX P w) P w K mg base N__law_not_let "_law_not_let" (defScope s__law_not_let) (ad 33) cdv A outer s H E) (fun cls d _ G => E cls d G) := takes_of rfl rfl rfl rfl
  unfold b__law_not_let
  exact (ss_cons (st_set 2 (se_ix ix_seq p_ix ((se_ix ix_seq p_ix ((se_var 1)).sub ((se_un un_neg p_neg (se_int).sub)).sub (fun _ _ => rfl))).sub (se_int).sub (fun _ _ => rfl)) nd) (ss_cons (st_set 3 (se_ix ix_seq p_ix ((se_ix ix_seq p_ix ((se_var 1)).sub ((se_un un_neg p_neg (se_int).sub)).sub (fun _ _ => rfl))).sub (se_int).sub (fun _ _ => rfl)) nd) (ss_cons (st_set 4 (se_bin op_plus p_add (se_int).sub ((se_callI 0 (G__law_draw T) (by exact hgd) (by exact hr.mono (by decide)) (by exact tk) T.g__law_draw T.F__law_draw.kp T.b__law_draw (by rfl) (sa_cons (se_int).sub sa_nil))).sub) nd) (ss_cons (st_set 5 (se_tup (sa_cons ((se_bin op_sub p_sub ((se_var 2)).sub ((se_var 4)).sub)).sub (sa_cons ((se_bin op_plus p_add ((se_bin op_plus p_add ((se_var 4)).sub (se_int).sub)).sub ((se_callI 0 (G__law_draw T) (by exact hgd) (by exact hr.mono (by decide)) (by exact tk) T.g__law_draw T.F__law_draw.kp T.b__law_draw (by rfl) (sa_cons (se_int).sub sa_nil))).sub)).sub sa_nil))) nd) (ss_cons (st_if ((sw_and (st_cmp op_gt p_ord ((se_var 3)).sub (se_int).sub (nomark _)) (sw_and1 (st_cmp (op_equ (by exact hr.units)) p_eq ((se_callI 0 (G__law_draw T) (by exact hgd) (by exact hr.mono (by decide)) (by exact tk) T.g__law_draw T.F__law_draw.kp T.b__law_draw (by rfl) (sa_cons (se_int).sub sa_nil))).sub (se_int).sub (nomark _))))).tt (ss_cons (st_set 6 (se_callI 0 (G__law_draw T) (by exact hgd) (by exact hr.mono (by decide)) (by exact tk) T.g__law_draw T.F__law_draw.kp T.b__law_draw (by rfl) (sa_cons ((se_bin op_sub p_sub ((se_var 3)).sub (se_int).sub)).sub sa_nil)) nd) (ss_one (st_set 5 (se_tup (sa_cons ((se_bin op_plus p_add ((se_var 2)).sub ((se_var 6)).sub)).sub (sa_cons ((se_bin op_plus p_add (se_int).sub ((se_callI 0 (G__law_draw T) (by exact hgd) (by exact hr.mono (by decide)) (by exact tk) T.g__law_draw T.F__law_draw.kp T.b__law_draw (by rfl) (sa_cons ((se_bin op_sub p_sub ((se_bin op_sub p_sub ((se_var 3)).sub (se_int).sub)).sub ((se_var 6)).sub)).sub sa_nil))).sub)).sub sa_nil))) nd))) ss_nil) (ss_cons (st_setLc 7 (vs := [10]) (si_seq ((se_var 1)).sub) (fun _ _ _ _ _ => (sg_name 10 nd)) (fun _ _ _ _ _ => sts_nil) (fun _ _ _ _ _ => ((se_tup (sa_cons ((se_bin op_plus p_add ((se_ix ix_seq p_ix ((se_var 10)).sub (se_int).sub (fun _ _ => rfl))).sub ((se_ix ix_seq p_ix ((se_var 5)).sub (se_int).sub (fun _ _ => rfl))).sub)).sub (sa_cons ((se_ix ix_seq p_ix ((se_var 10)).sub (se_int).sub (fun _ _ => rfl))).sub sa_nil)))).sub) (by decide) fun _ _ _ _ pi pg pt pe => ps_setLc (own := [("row", 10)]) (by rfl) nd (by rfl) (by rfl) (sw_true (by rfl) (by rfl) (by rfl) (by decide +kernel)) pi (blkOk_by (own := [("row", 10)]) (N := N__law_not_let) (sc := defScope s__law_not_let) (by decide +kernel)) pg pt pe) (ss_cons (st_set 8 (se_lst (sa_cons (se_str).sub (sa_cons ((se_callB call_lenA q_len (by rfl) T.z_len PySem.boot_len (sa_cons ((se_var 1)).sub sa_nil))).sub (sa_cons (se_bl).sub sa_nil)))) nd) (ss_cons (st_if (st_not (st_tru ((se_call (G__law_same T) (by exact hgd) (by exact hr.mono (by decide)) (by exact tk) T.g__law_same T.F__law_same.kp T.b__law_same (by rfl) (sa_cons ((se_call (G__law_lane_word T) (by exact hgd) (by exact hr.mono (by decide)) (by exact tk) T.g__law_lane_word T.F__law_lane_word.kp T.b__law_lane_word (by rfl) (sa_cons ((se_make T.mk_Lane (G_Lane_init T) (by exact hgd) (by exact hr.mono (by decide)) (by exact tk) T.gc_Lane T.b_Lane_init (by rfl) (sa_cons ((se_bin op_plus p_add ((se_var 1)).sub ((se_lst (sa_cons ((se_var 5)).sub sa_nil))).sub)).sub sa_nil))).sub sa_nil))).sub (sa_cons ((se_var 8)).sub sa_nil)))).sub)) (ss_one (st_ret se_bl)) ss_nil) (ss_cons (st_set 9 (se_bin op_plus p_add ((se_bin op_plus p_add ((se_bin op_plus p_add ((se_var 1)).sub ((se_lst (sa_cons ((se_var 5)).sub sa_nil))).sub)).sub ((se_var 7)).sub)).sub ((se_lst (sa_cons ((se_tup (sa_cons ((se_bin op_sub p_sub ((se_ix ix_seq p_ix ((se_ix ix_seq p_ix ((se_var 7)).sub ((se_un un_neg p_neg (se_int).sub)).sub (fun _ _ => rfl))).sub (se_int).sub (fun _ _ => rfl))).sub (se_int).sub)).sub (sa_cons ((se_bin op_plus p_add ((se_ix ix_seq p_ix ((se_ix ix_seq p_ix ((se_var 7)).sub ((se_un un_neg p_neg (se_int).sub)).sub (fun _ _ => rfl))).sub (se_int).sub (fun _ _ => rfl))).sub (se_int).sub)).sub sa_nil)))).sub sa_nil))).sub) nd) (ss_one (st_ret (se_call (G__law_same T) (by exact hgd) (by exact hr.mono (by decide)) (by exact tk) T.g__law_same T.F__law_same.kp T.b__law_same (by rfl) (sa_cons ((se_call (G__law_lane_word T) (by exact hgd) (by exact hr.mono (by decide)) (by exact tk) T.g__law_lane_word T.F__law_lane_word.kp T.b__law_lane_word (by rfl) (sa_cons ((se_make T.mk_Lane (G_Lane_init T) (by exact hgd) (by exact hr.mono (by decide)) (by exact tk) T.gc_Lane T.b_Lane_init (by rfl) (sa_cons ((se_var 9)).sub sa_nil))).sub sa_nil))).sub (sa_cons ((se_var 8)).sub sa_nil))))))))))))))
theorem G__law_read (T : Txt K mg ad ca ia fd fi tk) : FnG P w K mg base 7 (ad 27) (fd 27) ["which", "word"] (spF K mg (m__law_read ca) 2) := by
  refine fnF T.F__law_read sc__law_read rfl rfl fun cdv A outer s H E hgd hr => ?_
  have nd := sc__law_read.nd
  have hr : Room 6 (cxOf (L2.CX P w) P w K mg base N__law_read "_law_read" (defScope s__law_read) (ad 27) cdv A outer s H E).A := hr
  have tk : Takes (cxOf (L2.CX P w) P w K mg base N__law_read "_law_read" (defScope s__law_read) (ad 27) cdv A outer s H E) (fun cls d _ G => E cls d G) := takes_of rfl rfl rfl rfl
  unfold b__law_read
  exact (ss_cons (st_try (by rfl) (by rfl) nd tk (fun w pn xe tk po => (ss_one (st_if (st_cmp (op_equ (by exact hr.units)) p_eq ((se_var 0)).sub (se_int).sub (nomark _)) (ss_one (st_set 2 (se_call (G_tops T) (by exact hgd) (by exact hr.mono (by decide)) (by exact tk) T.g_tops T.F_tops.kp T.b_tops (by rfl) (sa_cons ((se_var 1)).sub sa_nil)) nd)) (ss_one (st_if (st_cmp (op_equ (by exact hr.units)) p_eq ((se_var 0)).sub (se_int).sub (nomark _)) (ss_one (st_set 2 (se_call (G_bottoms T) (by exact hgd) (by exact hr.mono (by decide)) (by exact tk) T.g_bottoms T.F_bottoms.kp T.b_bottoms (by rfl) (sa_cons ((se_var 1)).sub sa_nil)) nd)) (ss_one (st_set 2 (se_call (G_stair_of T) (by exact hgd) (by exact hr.mono (by decide)) (by exact tk) T.g_stair_of T.F_stair_of.kp T.b_stair_of (by rfl) (sa_cons ((se_var 1)).sub sa_nil)) nd))))))) (.cons ⟨by rfl, by decide, .inl T.gc_WordError⟩ ⟨by rfl, by rfl⟩ (fun n C b hn hb => T.ex.exm hn T.gc_WordError hb) (fun a oe cls d pn er hz hf => (ss_one (st_ret (se_lst (sa_cons (se_str).sub (sa_cons ((se_xf 3 T.ex hz hf)).sub (sa_cons ((se_isL 3 T.ex (.cons (by rfl) T.gc_LaneError (by decide) (by rfl) (.cons (by rfl) T.gc_NumberError (by decide) (by rfl) (.cons (by rfl) T.gc_SizeError (by decide) (by rfl) .nil))) hz hf (by rfl) T.z_isinstance (by show 3 ≤ 1000; decide))).sub sa_nil))))))) (.cons ⟨by rfl, by decide, .inl T.gc_SizeError⟩ ⟨by rfl, by rfl⟩ (fun n C b hn hb => T.ex.exm hn T.gc_SizeError hb) (fun a oe cls d pn er hz hf => (ss_one (st_ret (se_lst (sa_cons (se_str).sub (sa_cons ((se_xf 3 T.ex hz hf)).sub (sa_cons ((se_isL 3 T.ex (.cons (by rfl) T.gc_LaneError (by decide) (by rfl) (.cons (by rfl) T.gc_NumberError (by decide) (by rfl) (.cons (by rfl) T.gc_WordError (by decide) (by rfl) .nil))) hz hf (by rfl) T.z_isinstance (by show 3 ≤ 1000; decide))).sub sa_nil))))))) (.cons ⟨by rfl, by decide, .inl T.gc_RimmachinesError⟩ trivial (fun n C b hn hb => T.ex.exm hn T.gc_RimmachinesError hb) (fun a oe cls d pn er hz hf => (ss_one (st_ret (se_lst (sa_cons (se_str).sub sa_nil))))) .nil)))) (ss_cons (st_if (st_cmp op_lt p_ord ((se_var 0)).sub (se_int).sub (nomark _)) (ss_one (st_ret (se_lst (sa_cons (se_str).sub (sa_cons ((se_var 2)).sub sa_nil))))) ss_nil) (ss_cons (st_if (st_not (st_tru ((se_isI T.in_Lane T.gc_Lane ((se_var 2)).sub (by rfl) (by rfl) T.z_isinstance)).sub)) (ss_one (st_ret (se_lst (sa_cons (se_str).sub sa_nil)))) ss_nil) (ss_one (st_ret (se_lst (sa_cons (se_str).sub (sa_cons ((se_fld T.fld ((se_var 2)).sub)).sub sa_nil))))))))
theorem G__law_list (T : Txt K mg ad ca ia fd fi tk) : FnG P w K mg base 8 (ad 30) (fd 30) ["half"] (spF K mg (m__law_list ca) 1) := by
  refine fnF T.F__law_list sc__law_list rfl rfl fun cdv A outer s H E hgd hr => ?_
  have nd := sc__law_list.nd
  have hr : Room 7 (cxOf (L2.CX P w) P w K mg base N__law_list "_law_list" (defScope s__law_list) (ad 30) cdv A outer s H E).A := hr
  have tk : Takes (cxOf (L2.CX P w) P w K mg base N__law_list "_law_list" (defScope s__law_list) (ad 30) cdv A outer s H E) (fun cls d _ G => E cls d G) := takes_of rfl rfl rfl rfl
  unfold b__law_list
  exact (ss_cons (st_try (by rfl) (by rfl) nd tk (fun w pn xe tk po => (ss_one (st_set 1 (se_listG (G_bracket_words T) T.nst (by exact hr.mono (by decide)) (by exact hr.mono (by decide)) (by exact tk) T.g_bracket_words T.F_bracket_words.kp T.b_bracket_words (by rfl) (sa_cons ((se_var 0)).sub sa_nil) (by rfl) T.z_list (by decide +kernel)) nd))) (.cons ⟨by rfl, by decide, .inl T.gc_NumberError⟩ ⟨by rfl, by rfl⟩ (fun n C b hn hb => T.ex.exm hn T.gc_NumberError hb) (fun a oe cls d pn er hz hf => (ss_one (st_ret (se_lst (sa_cons (se_str).sub (sa_cons ((se_xf 2 T.ex hz hf)).sub (sa_cons ((se_isL 2 T.ex (.cons (by rfl) T.gc_LaneError (by decide) (by rfl) (.cons (by rfl) T.gc_SizeError (by decide) (by rfl) (.cons (by rfl) T.gc_WordError (by decide) (by rfl) .nil))) hz hf (by rfl) T.z_isinstance (by show 3 ≤ 1000; decide))).sub sa_nil))))))) (.cons ⟨by rfl, by decide, .inl T.gc_RimmachinesError⟩ trivial (fun n C b hn hb => T.ex.exm hn T.gc_RimmachinesError hb) (fun a oe cls d pn er hz hf => (ss_one (st_ret (se_lst (sa_cons (se_str).sub sa_nil))))) .nil))) (ss_one (st_ret (se_lst (sa_cons (se_str).sub (sa_cons ((se_var 1)).sub sa_nil))))))
theorem G__law_lane (T : Txt K mg ad ca ia fd fi tk) : FnG P w K mg base 8 (ad 32) (fd 32) ["pool", "stairs"] (spI K mg (m__law_lane ca) 1) := by
  refine fnI T.F__law_lane sc__law_lane rfl rfl fun cdv A outer s H E hgd hr => ?_
  have nd := sc__law_lane.nd
  have hr : Room 7 (cxOf (L2.CX P w) P w K mg base N__law_lane "_law_lane" (defScope s__law_lane) (ad 32) cdv A outer s H E).A := hr
  have tk : Takes (cxOf (L2.CX P w) P w K mg base N__law_lane "_law_lane" (defScope s__law_lane) (ad 32) cdv A outer s H E) (fun cls d _ G => E cls d G) := takes_of rfl rfl rfl rfl
  unfold b__law_lane
  exact (ss_cons (st_set 2 (se_call (G__law_word_of T) (by exact hgd) (by exact hr.mono (by decide)) (by exact tk) T.g__law_word_of T.F__law_word_of.kp T.b__law_word_of (by rfl) (sa_cons ((se_var 1)).sub sa_nil)) nd) (ss_cons (st_set 3 (se_lst (sa_cons (se_int).sub (sa_cons ((se_un un_neg p_neg (se_int).sub)).sub (sa_cons ((se_bin op_sub p_sub (se_int).sub ((se_ix ix_seq p_ix ((se_ix ix_seq p_ix ((se_var 1)).sub ((se_un un_neg p_neg (se_int).sub)).sub (fun _ _ => rfl))).sub (se_int).sub (fun _ _ => rfl))).sub)).sub (sa_cons ((se_bin op_sub p_sub ((se_callI 0 (G__law_draw T) (by exact hgd) (by exact hr.mono (by decide)) (by exact tk) T.g__law_draw T.F__law_draw.kp T.b__law_draw (by rfl) (sa_cons (se_int).sub sa_nil))).sub (se_int).sub)).sub sa_nil))))) nd) (ss_cons (st_set 4 (se_ix ix_seq p_ix ((se_var 3)).sub ((se_callI 0 (G__law_draw T) (by exact hgd) (by exact hr.mono (by decide)) (by exact tk) T.g__law_draw T.F__law_draw.kp T.b__law_draw (by rfl) (sa_cons (se_int).sub sa_nil))).sub (fun _ _ => rfl)) nd) (ss_cons (st_set 5 (se_make T.mk_Lane (G_Lane_init T) (by exact hgd) (by exact hr.mono (by decide)) (by exact tk) T.gc_Lane T.b_Lane_init (by rfl) (sa_cons ((se_comp (vs := [7]) (si_seq ((se_var 1)).sub) (fun _ _ _ _ _ => (sg_name 7 nd)) (fun _ _ _ _ _ => sts_nil) (fun _ _ _ _ _ => ((se_tup (sa_cons ((se_bin op_plus p_add ((se_ix ix_seq p_ix ((se_var 7)).sub (se_int).sub (fun _ _ => rfl))).sub ((se_var 4)).sub)).sub (sa_cons ((se_ix ix_seq p_ix ((se_var 7)).sub (se_int).sub (fun _ _ => rfl))).sub sa_nil)))).sub) (by decide) fun _ _ _ _ pi pg pt pe => pe_lc (own := [("row", 7)]) (by rfl) nd pi (blkOk_by (own := [("row", 7)]) (N := N__law_lane) (sc := defScope s__law_lane) (by decide +kernel)) pg pt pe)).sub sa_nil)) nd) (ss_cons (st_if (st_not (st_tru ((se_call (G__law_same T) (by exact hgd) (by exact hr.mono (by decide)) (by exact tk) T.g__law_same T.F__law_same.kp T.b__law_same (by rfl) (sa_cons ((se_call (G__law_lane_word T) (by exact hgd) (by exact hr.mono (by decide)) (by exact tk) T.g__law_lane_word T.F__law_lane_word.kp T.b__law_lane_word (by rfl) (sa_cons ((se_var 5)).sub sa_nil))).sub (sa_cons ((se_lst (sa_cons (se_str).sub (sa_cons ((se_var 2)).sub sa_nil)))).sub sa_nil)))).sub)) (ss_one (st_ret se_bl)) ss_nil) (ss_cons (st_set 6 (se_lst (sa_cons (se_str).sub (sa_cons ((se_callTy call_tuple_of q_tuple (by rfl) T.z_tuple (by decide +kernel) (sa_cons ((se_var 1)).sub sa_nil))).sub sa_nil))) nd) (ss_cons (st_if (st_cmp op_gt p_ord ((se_callB call_lenA q_len (by rfl) T.z_len PySem.boot_len (sa_cons ((se_var 2)).sub sa_nil))).sub (se_int).sub (nomark _)) (ss_one (st_set 6 (se_lst (sa_cons (se_str).sub (sa_cons ((se_callB call_lenA q_len (by rfl) T.z_len PySem.boot_len (sa_cons ((se_var 2)).sub sa_nil))).sub (sa_cons (se_bl).sub sa_nil)))) nd)) ss_nil) (ss_cons (st_if (st_not (st_tru ((se_call (G__law_same T) (by exact hgd) (by exact hr.mono (by decide)) (by exact tk) T.g__law_same T.F__law_same.kp T.b__law_same (by rfl) (sa_cons ((se_call (G__law_read T) (by exact hgd) (by exact hr.mono (by decide)) (by exact tk) T.g__law_read T.F__law_read.kp T.b__law_read (by rfl) (sa_cons (se_int).sub (sa_cons ((se_var 2)).sub sa_nil)))).sub (sa_cons ((se_var 6)).sub sa_nil)))).sub)) (ss_one (st_ret se_bl)) ss_nil) (ss_one (st_ret (se_call (G__law_same T) (by exact hgd) (by exact hr.mono (by decide)) (by exact tk) T.g__law_same T.F__law_same.kp T.b__law_same (by rfl) (sa_cons ((se_call (G__law_lane_word T) (by exact hgd) (by exact hr.mono (by decide)) (by exact tk) T.g__law_lane_word T.F__law_lane_word.kp T.b__law_lane_word (by rfl) (sa_cons ((se_var 5)).sub sa_nil))).sub (sa_cons ((se_lst (sa_cons (se_str).sub (sa_cons ((se_var 2)).sub sa_nil)))).sub sa_nil)))))))))))))
theorem G__law_good (T : Txt K mg ad ca ia fd fi tk) : FnG P w K mg base 8 (ad 34) (fd 34) ["word"] (spF K mg (m__law_good ca) 1) := by
  refine fnF T.F__law_good sc__law_good rfl rfl fun cdv A outer s H E hgd hr => ?_
  have nd := sc__law_good.nd
  have hr : Room 7 (cxOf (L2.CX P w) P w K mg base N__law_good "_law_good" (defScope s__law_good) (ad 34) cdv A outer s H E).A := hr
  have tk : Takes (cxOf (L2.CX P w) P w K mg base N__law_good "_law_good" (defScope s__law_good) (ad 34) cdv A outer s H E) (fun cls d _ G => E cls d G) := takes_of rfl rfl rfl rfl
  unfold b__law_good
  exact (ss_cons (st_for (si_range1 (by rfl) T.z_range (sa_cons (se_int).sub sa_nil)) (sg_name 1 nd) (ss_one (st_if (st_not (st_tru ((se_call (G__law_same T) (by exact hgd) (by exact hr.mono (by decide)) (by exact tk) T.g__law_same T.F__law_same.kp T.b__law_same (by rfl) (sa_cons ((se_call (G__law_read T) (by exact hgd) (by exact hr.mono (by decide)) (by exact tk) T.g__law_read T.F__law_read.kp T.b__law_read (by rfl) (sa_cons ((se_var 1)).sub (sa_cons ((se_var 0)).sub sa_nil)))).sub (sa_cons ((se_call (G__law_due T) (by exact hgd) (by exact hr.mono (by decide)) (by exact tk) T.g__law_due T.F__law_due.kp T.b__law_due (by rfl) (sa_cons ((se_var 1)).sub (sa_cons ((se_var 0)).sub sa_nil)))).sub sa_nil)))).sub)) (ss_one (st_ret se_bl)) ss_nil)) (passes_of (by rfl)) (by rfl)) (ss_cons (st_if ((sw_or (st_cmp op_lt p_ord ((se_callB call_lenA q_len (by rfl) T.z_len PySem.boot_len (sa_cons ((se_var 0)).sub sa_nil))).sub (se_int).sub (nomark _)) (sw_or1 (st_cmp op_gt p_ord ((se_callB call_lenA q_len (by rfl) T.z_len PySem.boot_len (sa_cons ((se_var 0)).sub sa_nil))).sub (se_int).sub (nomark _))))).tt (ss_one (st_ret se_bl)) ss_nil) (ss_cons (st_set 2 (se_callKw (G_stair_of T) (by exact hgd) (by exact hr.mono (by decide)) (by exact tk) T.g_stair_of T.F_stair_of.kp T.kw_stair_of (by rfl) (sk_cons ((se_var 0)).sub sk_nil)) nd) (ss_one (st_ret (se_call (G__law_same T) (by exact hgd) (by exact hr.mono (by decide)) (by exact tk) T.g__law_same T.F__law_same.kp T.b__law_same (by rfl) (sa_cons ((se_call (G__law_lane_word T) (by exact hgd) (by exact hr.mono (by decide)) (by exact tk) T.g__law_lane_word T.F__law_lane_word.kp T.b__law_lane_word (by rfl) (sa_cons ((se_var 2)).sub sa_nil))).sub (sa_cons ((se_lst (sa_cons (se_str).sub (sa_cons ((se_var 0)).sub sa_nil)))).sub sa_nil))))))))
theorem G__law_bad (T : Txt K mg ad ca ia fd fi tk) : FnG P w K mg base 8 (ad 35) (fd 35) ["pool", "word", "other"] (spI K mg (m__law_bad ca) 2) := by
  refine fnI T.F__law_bad sc__law_bad rfl rfl fun cdv A outer s H E hgd hr => ?_
  have nd := sc__law_bad.nd
  have hr : Room 7 (cxOf (L2.CX P w) P w K mg base N__law_bad "_law_bad" (defScope s__law_bad) (ad 35) cdv A outer s H E).A := hr
  have tk : Takes (cxOf (L2.CX P w) P w K mg base N__law_bad "_law_bad" (defScope s__law_bad) (ad 35) cdv A outer s H E) (fun cls d _ G => E cls d G) := takes_of rfl rfl rfl rfl
  unfold b__law_bad
  exact (ss_cons (st_set 3 se_str nd) (ss_cons (st_set 3 (se_bin op_plus p_add ((se_var 3)).sub (se_str).sub) nd) (ss_cons (st_set 4 (se_ix ix_seq p_ix ((se_var 3)).sub ((se_callI 0 (G__law_draw T) (by exact hgd) (by exact hr.mono (by decide)) (by exact tk) T.g__law_draw T.F__law_draw.kp T.b__law_draw (by rfl) (sa_cons ((se_callB call_lenA q_len (by rfl) T.z_len PySem.boot_len (sa_cons ((se_var 3)).sub sa_nil))).sub sa_nil))).sub (fun _ _ => rfl)) nd) (ss_cons (st_set 5 (se_callI 0 (G__law_draw T) (by exact hgd) (by exact hr.mono (by decide)) (by exact tk) T.g__law_draw T.F__law_draw.kp T.b__law_draw (by rfl) (sa_cons ((se_bin op_plus p_add ((se_callB call_lenA q_len (by rfl) T.z_len PySem.boot_len (sa_cons ((se_var 1)).sub sa_nil))).sub (se_int).sub)).sub sa_nil)) nd) (ss_cons (st_set 6 (se_slice ((se_var 1)).sub so_none (so_some ((se_var 5)).sub)) nd) (ss_cons (st_set 7 (se_slice ((se_var 1)).sub (so_some ((se_var 5)).sub) so_none) nd) (ss_cons (st_set 8 (se_lst (sa_cons ((se_bin op_plus p_add ((se_bin op_plus p_add ((se_var 6)).sub ((se_var 4)).sub)).sub ((se_var 7)).sub)).sub (sa_cons ((se_bin op_plus p_add ((se_bin op_plus p_add ((se_bin op_plus p_add ((se_bin op_plus p_add (se_str).sub ((se_var 6)).sub)).sub ((se_var 4)).sub)).sub ((se_var 7)).sub)).sub (se_str).sub)).sub sa_nil))) nd) (ss_cons (st_set 8 (se_bin op_plus p_add ((se_var 8)).sub ((se_lst (sa_cons ((se_bin op_plus p_add ((se_bin op_plus p_add ((se_var 6)).sub (se_str).sub)).sub ((se_var 7)).sub)).sub (sa_cons ((se_bin op_plus p_add ((se_bin op_plus p_add ((se_var 6)).sub (se_str).sub)).sub ((se_var 7)).sub)).sub sa_nil)))).sub) nd) (ss_cons (st_set 8 (se_bin op_plus p_add ((se_var 8)).sub ((se_lst (sa_cons ((se_bin op_plus p_add ((se_bin op_plus p_add ((se_var 1)).sub (se_str).sub)).sub ((se_var 2)).sub)).sub (sa_cons ((se_bin op_plus p_add ((se_bin op_plus p_add ((se_var 1)).sub (se_str).sub)).sub ((se_var 2)).sub)).sub sa_nil)))).sub) nd) (ss_cons (st_expr (se_append 8 ((se_bin op_plus p_add ((se_bin op_plus p_add ((se_bin op_plus p_add ((se_bin op_plus p_add ((se_var 6)).sub ((se_var 4)).sub)).sub (se_str).sub)).sub ((se_var 2)).sub)).sub ((se_var 4)).sub)).sub fun t pt => pe_bm PySem.F.plainAttrs_list PySem.F.slot_list_append PySem.F.type_list_append mt_append (pv 8) (pa_cons pt pa_nil))) (ss_cons (st_set 9 (se_callI 0 (G__law_draw T) (by exact hgd) (by exact hr.mono (by decide)) (by exact tk) T.g__law_draw T.F__law_draw.kp T.b__law_draw (by rfl) (sa_cons (se_int).sub sa_nil)) nd) (ss_cons (st_expr (se_append 8 ((se_join (se_str).sub ((se_comp (vs := [13]) (si_range1 (by rfl) T.z_range (sa_cons ((se_var 9)).sub sa_nil)) (fun _ _ _ _ _ => (sg_name 13 nd)) (fun _ _ _ _ _ => sts_nil) (fun _ _ _ _ _ => ((se_ix ix_seq p_ix (se_str).sub ((se_callI 0 (G__law_draw T) (by exact hgd) (by exact hr.mono (by decide)) (by exact takes0) T.g__law_draw T.F__law_draw.kp T.b__law_draw (by rfl) (sa_cons (se_int).sub sa_nil))).sub (fun _ _ => rfl))).sub) (by decide) fun _ _ _ _ pi pg pt pe => pe_lc (own := [("k", 13)]) (by rfl) nd pi (blkOk_by (own := [("k", 13)]) (N := N__law_bad) (sc := defScope s__law_bad) (by decide +kernel)) pg pt pe)).sub)).sub fun t pt => pe_bm PySem.F.plainAttrs_list PySem.F.slot_list_append PySem.F.type_list_append mt_append (pv 8) (pa_cons pt pa_nil))) (ss_cons (st_set 8 (se_bin op_plus p_add ((se_var 8)).sub ((se_lst (sa_cons (se_str).sub (sa_cons (se_str).sub (sa_cons (se_str).sub (sa_cons (se_str).sub (sa_cons (se_str).sub (sa_cons (se_str).sub (sa_cons (se_str).sub (sa_cons ((se_var 4)).sub (sa_cons ((se_bin op_plus p_add ((se_var 4)).sub (se_str).sub)).sub sa_nil))))))))))).sub) nd) (ss_cons (st_set 10 (se_bin op_plus p_add (se_int).sub ((se_callI 0 (G__law_draw T) (by exact hgd) (by exact hr.mono (by decide)) (by exact tk) T.g__law_draw T.F__law_draw.kp T.b__law_draw (by rfl) (sa_cons (se_int).sub sa_nil))).sub) nd) (ss_cons (st_set 8 (se_bin op_plus p_add ((se_var 8)).sub ((se_lst (sa_cons ((se_slice ((se_bin op_repS p_repS (se_str).sub (se_int).sub)).sub so_none (so_some ((se_var 10)).sub))).sub (sa_cons ((se_slice ((se_bin op_plus p_add ((se_bin op_plus p_add ((se_var 1)).sub ((se_var 4)).sub)).sub ((se_bin op_repS p_repS (se_str).sub (se_int).sub)).sub)).sub so_none (so_some ((se_var 10)).sub))).sub sa_nil)))).sub) nd) (ss_cons (st_set 8 (se_bin op_plus p_add ((se_var 8)).sub ((se_lst (sa_cons ((se_slice ((se_bin op_repS p_repS (se_str).sub (se_int).sub)).sub so_none (so_some ((se_bin op_plus p_add ((se_var 10)).sub (se_int).sub)).sub))).sub (sa_cons ((se_slice ((se_bin op_plus p_add ((se_var 4)).sub ((se_bin op_repS p_repS (se_str).sub (se_int).sub)).sub)).sub so_none (so_some ((se_bin op_plus p_add ((se_var 10)).sub (se_int).sub)).sub))).sub sa_nil)))).sub) nd) (ss_cons (st_for (si_seq ((se_var 8)).sub) (sg_name 11 nd) (ss_one (st_for (si_range1 (by rfl) T.z_range (sa_cons (se_int).sub sa_nil)) (sg_name 12 nd) (ss_one (st_if (st_not (st_tru ((se_call (G__law_same T) (by exact hgd) (by exact hr.mono (by decide)) (by exact tk) T.g__law_same T.F__law_same.kp T.b__law_same (by rfl) (sa_cons ((se_call (G__law_read T) (by exact hgd) (by exact hr.mono (by decide)) (by exact tk) T.g__law_read T.F__law_read.kp T.b__law_read (by rfl) (sa_cons ((se_var 12)).sub (sa_cons ((se_var 11)).sub sa_nil)))).sub (sa_cons ((se_call (G__law_due T) (by exact hgd) (by exact hr.mono (by decide)) (by exact tk) T.g__law_due T.F__law_due.kp T.b__law_due (by rfl) (sa_cons ((se_var 12)).sub (sa_cons ((se_var 11)).sub sa_nil)))).sub sa_nil)))).sub)) (ss_one (st_ret se_bl)) ss_nil)) (passes_of (by rfl)) (by rfl))) (passes_of (by rfl)) (by rfl)) (ss_one (st_ret se_bl)))))))))))))))))))
theorem G__law_lists (T : Txt K mg ad ca ia fd fi tk) : FnG P w K mg base 9 (ad 36) (fd 36) ["pool"] (spI K mg (m__law_lists ca) 0) := by
  refine fnI T.F__law_lists sc__law_lists rfl rfl fun cdv A outer s H E hgd hr => ?_
  have nd := sc__law_lists.nd
  have hr : Room 8 (cxOf (L2.CX P w) P w K mg base N__law_lists "_law_lists" (defScope s__law_lists) (ad 36) cdv A outer s H E).A := hr
  have tk : Takes (cxOf (L2.CX P w) P w K mg base N__law_lists "_law_lists" (defScope s__law_lists) (ad 36) cdv A outer s H E) (fun cls d _ G => E cls d G) := takes_of rfl rfl rfl rfl
  unfold b__law_lists
  exact (ss_cons (st_set 1 (se_callI 0 (G__law_draw T) (by exact hgd) (by exact hr.mono (by decide)) (by exact tk) T.g__law_draw T.F__law_draw.kp T.b__law_draw (by rfl) (sa_cons (se_int).sub sa_nil)) nd) (ss_cons (st_if (st_cmp (op_equ (by exact hr.units)) p_eq ((se_callI 0 (G__law_draw T) (by exact hgd) (by exact hr.mono (by decide)) (by exact tk) T.g__law_draw T.F__law_draw.kp T.b__law_draw (by rfl) (sa_cons (se_int).sub sa_nil))).sub (se_int).sub (nomark _)) (ss_one (st_set 1 se_int nd)) ss_nil) (ss_cons (st_set 2 (se_call (G__law_words T) (by exact hgd) (by exact hr.mono (by decide)) (by exact tk) T.g__law_words T.F__law_words.kp T.b__law_words (by rfl) (sa_cons ((se_var 1)).sub sa_nil)) nd) (ss_cons (st_set 3 (se_call (G__law_counts T) (by exact hgd) (by exact hr.mono (by decide)) (by exact tk) T.g__law_counts T.F__law_counts.kp T.b__law_counts (by rfl) (sa_cons (se_int).sub sa_nil)) nd) (ss_cons (st_if (st_not (st_tru ((se_call (G__law_same T) (by exact hgd) (by exact hr.mono (by decide)) (by exact tk) T.g__law_same T.F__law_same.kp T.b__law_same (by rfl) (sa_cons ((se_call (G__law_list T) (by exact hgd) (by exact hr.mono (by decide)) (by exact tk) T.g__law_list T.F__law_list.kp T.b__law_list (by rfl) (sa_cons ((se_var 1)).sub sa_nil))).sub (sa_cons ((se_lst (sa_cons (se_str).sub (sa_cons ((se_var 2)).sub sa_nil)))).sub sa_nil)))).sub)) (ss_one (st_ret se_bl)) ss_nil) (ss_cons (st_if (st_not (st_tru ((se_call (G__law_same T) (by exact hgd) (by exact hr.mono (by decide)) (by exact tk) T.g__law_same T.F__law_same.kp T.b__law_same (by rfl) (sa_cons ((se_call (G__law_count T) (by exact hgd) (by exact hr.mono (by decide)) (by exact tk) T.g__law_count T.F__law_count.kp T.b__law_count (by rfl) (sa_cons ((se_var 1)).sub sa_nil))).sub (sa_cons ((se_lst (sa_cons (se_str).sub (sa_cons ((se_callB call_lenA q_len (by rfl) T.z_len PySem.boot_len (sa_cons ((se_var 2)).sub sa_nil))).sub sa_nil)))).sub sa_nil)))).sub)) (ss_one (st_ret se_bl)) ss_nil) (ss_cons (st_set 4 (se_ix ix_seq p_ix ((se_lst (sa_cons (se_int).sub (sa_cons (se_int).sub (sa_cons ((se_callI 0 (G__law_draw T) (by exact hgd) (by exact hr.mono (by decide)) (by exact tk) T.g__law_draw T.F__law_draw.kp T.b__law_draw (by rfl) (sa_cons (se_int).sub sa_nil))).sub sa_nil))))).sub ((se_callI 0 (G__law_draw T) (by exact hgd) (by exact hr.mono (by decide)) (by exact tk) T.g__law_draw T.F__law_draw.kp T.b__law_draw (by rfl) (sa_cons (se_int).sub sa_nil))).sub (fun _ _ => rfl)) nd) (ss_cons (st_set 5 (se_callI 0 (G__law_draw T) (by exact hgd) (by exact hr.mono (by decide)) (by exact tk) T.g__law_draw T.F__law_draw.kp T.b__law_draw (by rfl) (sa_cons ((se_bin op_pow p_pow (se_int).sub (se_int).sub)).sub sa_nil)) nd) (ss_cons (st_if (st_not (st_tru ((se_call (G__law_same T) (by exact hgd) (by exact hr.mono (by decide)) (by exact tk) T.g__law_same T.F__law_same.kp T.b__law_same (by rfl) (sa_cons ((se_call (G__law_count T) (by exact hgd) (by exact hr.mono (by decide)) (by exact tk) T.g__law_count T.F__law_count.kp T.b__law_count (by rfl) (sa_cons ((se_var 4)).sub sa_nil))).sub (sa_cons ((se_lst (sa_cons (se_str).sub (sa_cons ((se_ix ix_seq p_ix ((se_var 3)).sub ((se_var 4)).sub (fun _ _ => rfl))).sub sa_nil)))).sub sa_nil)))).sub)) (ss_one (st_ret se_bl)) ss_nil) (ss_cons (st_set 6 (se_ix ix_seq p_ix ((se_lst (sa_cons ((se_un un_neg p_neg (se_int).sub)).sub (sa_cons (se_int).sub (sa_cons ((se_bin op_sub p_sub ((se_un un_neg p_neg (se_int).sub)).sub ((se_var 5)).sub)).sub (sa_cons ((se_bin op_plus p_add (se_int).sub ((se_var 5)).sub)).sub sa_nil)))))).sub ((se_callI 0 (G__law_draw T) (by exact hgd) (by exact hr.mono (by decide)) (by exact tk) T.g__law_draw T.F__law_draw.kp T.b__law_draw (by rfl) (sa_cons (se_int).sub sa_nil))).sub (fun _ _ => rfl)) nd) (ss_cons (st_if (st_not (st_tru ((se_call (G__law_same T) (by exact hgd) (by exact hr.mono (by decide)) (by exact tk) T.g__law_same T.F__law_same.kp T.b__law_same (by rfl) (sa_cons ((se_call (G__law_list T) (by exact hgd) (by exact hr.mono (by decide)) (by exact tk) T.g__law_list T.F__law_list.kp T.b__law_list (by rfl) (sa_cons ((se_var 6)).sub sa_nil))).sub (sa_cons ((se_lst (sa_cons (se_str).sub (sa_cons ((se_var 6)).sub (sa_cons (se_bl).sub sa_nil))))).sub sa_nil)))).sub)) (ss_one (st_ret se_bl)) ss_nil) (ss_cons (st_set 6 (se_ix ix_seq p_ix ((se_lst (sa_cons ((se_un un_neg p_neg (se_int).sub)).sub (sa_cons (se_int).sub (sa_cons ((se_bin op_sub p_sub ((se_un un_neg p_neg (se_int).sub)).sub ((se_var 5)).sub)).sub (sa_cons ((se_bin op_plus p_add (se_int).sub ((se_var 5)).sub)).sub sa_nil)))))).sub ((se_callI 0 (G__law_draw T) (by exact hgd) (by exact hr.mono (by decide)) (by exact tk) T.g__law_draw T.F__law_draw.kp T.b__law_draw (by rfl) (sa_cons (se_int).sub sa_nil))).sub (fun _ _ => rfl)) nd) (ss_one (st_ret (se_call (G__law_same T) (by exact hgd) (by exact hr.mono (by decide)) (by exact tk) T.g__law_same T.F__law_same.kp T.b__law_same (by rfl) (sa_cons ((se_call (G__law_count T) (by exact hgd) (by exact hr.mono (by decide)) (by exact tk) T.g__law_count T.F__law_count.kp T.b__law_count (by rfl) (sa_cons ((se_var 6)).sub sa_nil))).sub (sa_cons ((se_lst (sa_cons (se_str).sub (sa_cons ((se_var 6)).sub (sa_cons (se_bl).sub sa_nil))))).sub sa_nil)))))))))))))))))
theorem G_law (T : Txt K mg ad ca ia fd fi tk) : FnG P w K mg base 10 (ad 37) (fd 37) ["script"] (spF K mg (m_law ca) 1) := by
  refine fnF T.F_law sc_law rfl rfl fun cdv A outer s H E hgd hr => ?_
  have nd := sc_law.nd
  have hr : Room 9 (cxOf (L2.CX P w) P w K mg base N_law "law" (defScope s_law) (ad 37) cdv A outer s H E).A := hr
  have tk : Takes (cxOf (L2.CX P w) P w K mg base N_law "law" (defScope s_law) (ad 37) cdv A outer s H E) (fun cls d _ G => E cls d G) := takes_of rfl rfl rfl rfl
  unfold b_law
  exact (ss_cons (st_set 1 (se_call (G__law_pool T) (by exact hgd) (by exact hr.mono (by decide)) (by exact tk) T.g__law_pool T.F__law_pool.kp T.b__law_pool (by rfl) (sa_cons ((se_var 0)).sub sa_nil)) nd) (ss_cons (st_set 2 (se_callI 1 (G__law_stairs T) (by exact hgd) (by exact hr.mono (by decide)) (by exact tk) T.g__law_stairs T.F__law_stairs.kp T.b__law_stairs (by rfl) (sa_cons ((se_bin op_plus p_add (se_int).sub ((se_callI 1 (G__law_draw T) (by exact hgd) (by exact hr.mono (by decide)) (by exact tk) T.g__law_draw T.F__law_draw.kp T.b__law_draw (by rfl) (sa_cons (se_int).sub sa_nil))).sub)).sub sa_nil)) nd) (ss_cons (st_set 3 (se_callI 1 (G__law_word T) (by exact hgd) (by exact hr.mono (by decide)) (by exact tk) T.g__law_word T.F__law_word.kp T.b__law_word (by rfl) (sa_cons ((se_bin op_plus p_add (se_int).sub ((se_callI 1 (G__law_draw T) (by exact hgd) (by exact hr.mono (by decide)) (by exact tk) T.g__law_draw T.F__law_draw.kp T.b__law_draw (by rfl) (sa_cons (se_int).sub sa_nil))).sub)).sub sa_nil)) nd) (ss_cons (st_set 4 (se_callI 1 (G__law_word T) (by exact hgd) (by exact hr.mono (by decide)) (by exact tk) T.g__law_word T.F__law_word.kp T.b__law_word (by rfl) (sa_cons ((se_callI 1 (G__law_draw T) (by exact hgd) (by exact hr.mono (by decide)) (by exact tk) T.g__law_draw T.F__law_draw.kp T.b__law_draw (by rfl) (sa_cons (se_int).sub sa_nil))).sub sa_nil)) nd) (ss_cons (st_set 5 (se_cmp (op_equ (by exact hr.units)) p_eq ((se_callI 1 (G__law_draw T) (by exact hgd) (by exact hr.mono (by decide)) (by exact tk) T.g__law_draw T.F__law_draw.kp T.b__law_draw (by rfl) (sa_cons (se_int).sub sa_nil))).sub (se_int).sub (nomark _)) nd) (ss_cons (st_if ((sw_or (st_not (st_tru ((se_callI 1 (G__law_lane T) (by exact hgd) (by exact hr.mono (by decide)) (by exact tk) T.g__law_lane T.F__law_lane.kp T.b__law_lane (by rfl) (sa_cons ((se_var 2)).sub sa_nil))).sub)) (sw_or1 (st_not (st_tru ((se_callI 1 (G__law_not_let T) (by exact hgd) (by exact hr.mono (by decide)) (by exact tk) T.g__law_not_let T.F__law_not_let.kp T.b__law_not_let (by rfl) (sa_cons ((se_var 2)).sub sa_nil))).sub))))).tt (ss_one (st_ret se_bl)) ss_nil) (ss_cons (st_if ((sw_or (st_not (st_tru ((se_call (G__law_good T) (by exact hgd) (by exact hr.mono (by decide)) (by exact tk) T.g__law_good T.F__law_good.kp T.b__law_good (by rfl) (sa_cons ((se_var 3)).sub sa_nil))).sub)) (sw_or1 (st_not (st_tru ((se_call (G__law_good T) (by exact hgd) (by exact hr.mono (by decide)) (by exact tk) T.g__law_good T.F__law_good.kp T.b__law_good (by rfl) (sa_cons ((se_var 4)).sub sa_nil))).sub))))).tt (ss_one (st_ret se_bl)) ss_nil) (ss_cons (st_if (st_tru ((se_var 5)).sub) (ss_cons (st_set 6 (se_callI 1 (G__law_stairs T) (by exact hgd) (by exact hr.mono (by decide)) (by exact tk) T.g__law_stairs T.F__law_stairs.kp T.b__law_stairs (by rfl) (sa_cons ((se_bin op_plus p_add (se_int).sub ((se_callI 1 (G__law_draw T) (by exact hgd) (by exact hr.mono (by decide)) (by exact tk) T.g__law_draw T.F__law_draw.kp T.b__law_draw (by rfl) (sa_cons (se_int).sub sa_nil))).sub)).sub sa_nil)) nd) (ss_cons (st_if (st_not (st_tru ((se_callI 1 (G__law_lane T) (by exact hgd) (by exact hr.mono (by decide)) (by exact tk) T.g__law_lane T.F__law_lane.kp T.b__law_lane (by rfl) (sa_cons ((se_var 6)).sub sa_nil))).sub)) (ss_one (st_ret se_bl)) ss_nil) (ss_one (st_if ((sw_or (st_not (st_tru ((se_call (G__law_good T) (by exact hgd) (by exact hr.mono (by decide)) (by exact tk) T.g__law_good T.F__law_good.kp T.b__law_good (by rfl) (sa_cons ((se_callI 1 (G__law_word T) (by exact hgd) (by exact hr.mono (by decide)) (by exact tk) T.g__law_word T.F__law_word.kp T.b__law_word (by rfl) (sa_cons (se_int).sub sa_nil))).sub sa_nil))).sub)) (sw_or1 (st_not (st_tru ((se_call (G__law_good T) (by exact hgd) (by exact hr.mono (by decide)) (by exact tk) T.g__law_good T.F__law_good.kp T.b__law_good (by rfl) (sa_cons ((se_callI 1 (G__law_word T) (by exact hgd) (by exact hr.mono (by decide)) (by exact tk) T.g__law_word T.F__law_word.kp T.b__law_word (by rfl) (sa_cons (se_int).sub sa_nil))).sub sa_nil))).sub))))).tt (ss_one (st_ret se_bl)) ss_nil)))) ss_nil) (ss_cons (st_set 7 (se_call (G_tops T) (by exact hgd) (by exact hr.mono (by decide)) (by exact tk) T.g_tops T.F_tops.kp T.b_tops (by rfl) (sa_cons ((se_var 3)).sub sa_nil)) nd) (ss_cons (st_expr (se_append 7 ((se_bin op_plus p_add ((se_ix ix_seq p_ix ((se_var 7)).sub (se_int).sub (fun _ _ => rfl))).sub (se_int).sub)).sub fun t pt => pe_bm PySem.F.plainAttrs_list PySem.F.slot_list_append PySem.F.type_list_append mt_append (pv 7) (pa_cons pt pa_nil))) (ss_cons (st_if (st_not (st_tru ((se_call (G__law_same T) (by exact hgd) (by exact hr.mono (by decide)) (by exact tk) T.g__law_same T.F__law_same.kp T.b__law_same (by rfl) (sa_cons ((se_call (G__law_read T) (by exact hgd) (by exact hr.mono (by decide)) (by exact tk) T.g__law_read T.F__law_read.kp T.b__law_read (by rfl) (sa_cons (se_int).sub (sa_cons ((se_var 3)).sub sa_nil)))).sub (sa_cons ((se_call (G__law_due T) (by exact hgd) (by exact hr.mono (by decide)) (by exact tk) T.g__law_due T.F__law_due.kp T.b__law_due (by rfl) (sa_cons (se_int).sub (sa_cons ((se_var 3)).sub sa_nil)))).sub sa_nil)))).sub)) (ss_one (st_ret se_bl)) ss_nil) (ss_one (st_ret (se_and (se_callI 1 (G__law_bad T) (by exact hgd) (by exact hr.mono (by decide)) (by exact tk) T.g__law_bad T.F__law_bad.kp T.b__law_bad (by rfl) (sa_cons ((se_var 3)).sub (sa_cons ((se_var 4)).sub sa_nil))) (se_one (se_callI 1 (G__law_lists T) (by exact hgd) (by exact hr.mono (by decide)) (by exact tk) T.g__law_lists T.F__law_lists.kp T.b__law_lists (by rfl) sa_nil))))))))))))))))
end
theorem all_mk {P : Program} {w : World} {K : PySem.W.Frag} {h : Heap} {mg : Str → Option Value} {fa : Addr} (X : K.In h) (G : h.Ns mainGlobals mg) (hfa : mg "law" = some (.ref fa))
    {f0 f1 f2 f3 f4 f5 f6 f7 f8 f9 f10 f11 f12 f13 f14 f15 f16 f17 f18 f19 f20 f21 f22 f23 f24 f25 f26 f27 f28 f29 f30 f31 f32 f33 f34 f35 f36 f37 fi0 fi1 fi2 fi3 C0 C1 C2 C3 C4 C5 A_STEPS : Addr} {od0 an0 od1 an1 od2 an2 od3 an3 od4 an4 od5 an5 od6 an6 od7 an7 od8 an8 od9 an9 od10 an10 od11 an11 od12 an12 od13 an13 od14 an14 od15 an15 od16 an16 od17 an17 od18 an18 od19 an19 od20 an20 od21 an21 od22 an22 od23 an23 od24 an24 od25 an25 od26 an26 od27 an27 od28 an28 od29 an29 od30 an30 od31 an31 od32 an32 od33 an33 od34 an34 od35 an35 od36 an36 od37 an37 odi0 ani0 odi1 ani1 odi2 ani2 odi3 ani3 : Option Addr} {sl0 sl1 sl2 sl3 sl4 sl5 sl6 sl7 sl8 sl9 sl10 sl11 sl12 sl13 sl14 sl15 sl16 sl17 sl18 sl19 sl20 sl21 sl22 sl23 sl24 sl25 sl26 sl27 sl28 sl29 sl30 sl31 sl32 sl33 sl34 sl35 sl36 sl37 sli0 sli1 sli2 sli3 : Array (Option Value)} {oc0 kV0 dc0 pm0 cd0 ct0 oc1 kV1 dc1 pm1 cd1 ct1 oc2 kV2 dc2 pm2 cd2 ct2 oc3 kV3 dc3 pm3 cd3 ct3 oc4 kV4 dc4 pm4 cd4 ct4 oc5 kV5 dc5 pm5 cd5 ct5 oc6 kV6 dc6 pm6 cd6 ct6 oc7 kV7 dc7 pm7 cd7 ct7 oc8 kV8 dc8 pm8 cd8 ct8 oc9 kV9 dc9 pm9 cd9 ct9 oc10 kV10 dc10 pm10 cd10 ct10 oc11 kV11 dc11 pm11 cd11 ct11 oc12 kV12 dc12 pm12 cd12 ct12 oc13 kV13 dc13 pm13 cd13 ct13 oc14 kV14 dc14 pm14 cd14 ct14 oc15 kV15 dc15 pm15 cd15 ct15 oc16 kV16 dc16 pm16 cd16 ct16 oc17 kV17 dc17 pm17 cd17 ct17 oc18 kV18 dc18 pm18 cd18 ct18 oc19 kV19 dc19 pm19 cd19 ct19 oc20 kV20 dc20 pm20 cd20 ct20 oc21 kV21 dc21 pm21 cd21 ct21 oc22 kV22 dc22 pm22 cd22 ct22 oc23 kV23 dc23 pm23 cd23 ct23 oc24 kV24 dc24 pm24 cd24 ct24 oc25 kV25 dc25 pm25 cd25 ct25 oc26 kV26 dc26 pm26 cd26 ct26 oc27 kV27 dc27 pm27 cd27 ct27 oc28 kV28 dc28 pm28 cd28 ct28 oc29 kV29 dc29 pm29 cd29 ct29 oc30 kV30 dc30 pm30 cd30 ct30 oc31 kV31 dc31 pm31 cd31 ct31 oc32 kV32 dc32 pm32 cd32 ct32 oc33 kV33 dc33 pm33 cd33 ct33 oc34 kV34 dc34 pm34 cd34 ct34 oc35 kV35 dc35 pm35 cd35 ct35 oc36 kV36 dc36 pm36 cd36 ct36 oc37 kV37 dc37 pm37 cd37 ct37 oci0 kVi0 dci0 pmi0 cdi0 cti0 oci1 kVi1 dci1 pmi1 cdi1 cti1 oci2 kVi2 dci2 pmi2 cdi2 cti2 oci3 kVi3 dci3 pmi3 cdi3 cti3 : Value} {tk0 tk1 : Tok}
    {nm1 q1 : Str} {N1 : Addr} {bs1 bm1 : List Value} {sn1 : List Str} {sub1 : List Value} {ab1 : Bool} {col1 : Option Bool} {dd1 : Option Addr} {ka0_1 ka1_1 ka2_1 ka3_1 ka5_1 : Option Value}
    {nm2 q2 : Str} {N2 : Addr} {bs2 bm2 : List Value} {sn2 : List Str} {sub2 : List Value} {ab2 : Bool} {col2 : Option Bool} {dd2 : Option Addr} {ka0_2 ka1_2 ka2_2 ka3_2 ka5_2 : Option Value}
    {nm3 q3 : Str} {N3 : Addr} {bs3 bm3 : List Value} {sn3 : List Str} {sub3 : List Value} {ab3 : Bool} {col3 : Option Bool} {dd3 : Option Addr} {ka0_3 ka1_3 ka2_3 ka3_3 ka5_3 : Option Value}
    {nm4 q4 : Str} {N4 : Addr} {bs4 bm4 : List Value} {sn4 : List Str} {sub4 : List Value} {ab4 : Bool} {col4 : Option Bool} {dd4 : Option Addr} {ka0_4 ka1_4 ka2_4 ka3_4 ka5_4 : Option Value}
    (ac5 : PySem.W.nsIn K mainGlobals "Lane" = some (some (.ref C5)))
    (a0 : PySem.W.nsIn K mainGlobals "check_number" = some (some (.ref f0)))
    (l0 : K.lookup f0 = some ⟨oc0, od0, .func (PySem.W.fnOf "check_number" "check_number" (defArgs s_check_number) (defBody s_check_number) (defScope s_check_number) .none kV0 dc0 pm0 an0 cd0 ct0), sl0⟩)
    (c0 : PySem.W.codeIn K cd0 "check_number" = true)
    (k0 : PySem.W.keepIn K (.ref f0) = true)
    (a1 : PySem.W.nsIn K mainGlobals "check_size" = some (some (.ref f1)))
    (l1 : K.lookup f1 = some ⟨oc1, od1, .func (PySem.W.fnOf "check_size" "check_size" (defArgs s_check_size) (defBody s_check_size) (defScope s_check_size) .none kV1 dc1 pm1 an1 cd1 ct1), sl1⟩)
    (c1 : PySem.W.codeIn K cd1 "check_size" = true)
    (k1 : PySem.W.keepIn K (.ref f1) = true)
    (a2 : PySem.W.nsIn K mainGlobals "check_letters" = some (some (.ref f2)))
    (l2 : K.lookup f2 = some ⟨oc2, od2, .func (PySem.W.fnOf "check_letters" "check_letters" (defArgs s_check_letters) (defBody s_check_letters) (defScope s_check_letters) .none kV2 dc2 pm2 an2 cd2 ct2), sl2⟩)
    (c2 : PySem.W.codeIn K cd2 "check_letters" = true)
    (k2 : PySem.W.keepIn K (.ref f2) = true)
    (a3 : PySem.W.nsIn K mainGlobals "check_balance" = some (some (.ref f3)))
    (l3 : K.lookup f3 = some ⟨oc3, od3, .func (PySem.W.fnOf "check_balance" "check_balance" (defArgs s_check_balance) (defBody s_check_balance) (defScope s_check_balance) .none kV3 dc3 pm3 an3 cd3 ct3), sl3⟩)
    (c3 : PySem.W.codeIn K cd3 "check_balance" = true)
    (k3 : PySem.W.keepIn K (.ref f3) = true)
    (a4 : PySem.W.nsIn K mainGlobals "check_brackets" = some (some (.ref f4)))
    (l4 : K.lookup f4 = some ⟨oc4, od4, .func (PySem.W.fnOf "check_brackets" "check_brackets" (defArgs s_check_brackets) (defBody s_check_brackets) (defScope s_check_brackets) .none kV4 dc4 pm4 an4 cd4 ct4), sl4⟩)
    (c4 : PySem.W.codeIn K cd4 "check_brackets" = true)
    (k4 : PySem.W.keepIn K (.ref f4) = true)
    (a5 : PySem.W.nsIn K mainGlobals "heights_between" = some (some (.ref f5)))
    (l5 : K.lookup f5 = some ⟨oc5, od5, .func (PySem.W.fnOf "heights_between" "heights_between" (defArgs s_heights_between) (defBody s_heights_between) (defScope s_heights_between) .none kV5 dc5 pm5 an5 cd5 ct5), sl5⟩)
    (c5 : PySem.W.codeIn K cd5 "heights_between" = true)
    (k5 : PySem.W.keepIn K (.ref f5) = true)
    (a6 : PySem.W.nsIn K mainGlobals "bracket_count" = some (some (.ref f6)))
    (l6 : K.lookup f6 = some ⟨oc6, od6, .func (PySem.W.fnOf "bracket_count" "bracket_count" (defArgs s_bracket_count) (defBody s_bracket_count) (defScope s_bracket_count) .none kV6 dc6 pm6 an6 cd6 ct6), sl6⟩)
    (c6 : PySem.W.codeIn K cd6 "bracket_count" = true)
    (k6 : PySem.W.keepIn K (.ref f6) = true)
    (a7 : PySem.W.nsIn K mainGlobals "bracket_words" = some (some (.ref f7)))
    (l7 : K.lookup f7 = some ⟨oc7, od7, .func (PySem.W.fnOf "bracket_words" "bracket_words" (defArgs s_bracket_words) (defBody s_bracket_words) (defScope s_bracket_words) .none kV7 dc7 pm7 an7 cd7 ct7), sl7⟩)
    (c7 : PySem.W.codeIn K cd7 "bracket_words" = true)
    (k7 : PySem.W.keepIn K (.ref f7) = true)
    (a8 : PySem.W.nsIn K mainGlobals "tops" = some (some (.ref f8)))
    (l8 : K.lookup f8 = some ⟨oc8, od8, .func (PySem.W.fnOf "tops" "tops" (defArgs s_tops) (defBody s_tops) (defScope s_tops) .none kV8 dc8 pm8 an8 cd8 ct8), sl8⟩)
    (c8 : PySem.W.codeIn K cd8 "tops" = true)
    (k8 : PySem.W.keepIn K (.ref f8) = true)
    (a9 : PySem.W.nsIn K mainGlobals "bottoms" = some (some (.ref f9)))
    (l9 : K.lookup f9 = some ⟨oc9, od9, .func (PySem.W.fnOf "bottoms" "bottoms" (defArgs s_bottoms) (defBody s_bottoms) (defScope s_bottoms) .none kV9 dc9 pm9 an9 cd9 ct9), sl9⟩)
    (c9 : PySem.W.codeIn K cd9 "bottoms" = true)
    (k9 : PySem.W.keepIn K (.ref f9) = true)
    (a10 : PySem.W.nsIn K mainGlobals "let_shifts" = some (some (.ref f10)))
    (l10 : K.lookup f10 = some ⟨oc10, od10, .func (PySem.W.fnOf "let_shifts" "let_shifts" (defArgs s_let_shifts) (defBody s_let_shifts) (defScope s_let_shifts) .none kV10 dc10 pm10 an10 cd10 ct10), sl10⟩)
    (c10 : PySem.W.codeIn K cd10 "let_shifts" = true)
    (k10 : PySem.W.keepIn K (.ref f10) = true)
    (a11 : PySem.W.nsIn K mainGlobals "first_not_let" = some (some (.ref f11)))
    (l11 : K.lookup f11 = some ⟨oc11, od11, .func (PySem.W.fnOf "first_not_let" "first_not_let" (defArgs s_first_not_let) (defBody s_first_not_let) (defScope s_first_not_let) .none kV11 dc11 pm11 an11 cd11 ct11), sl11⟩)
    (c11 : PySem.W.codeIn K cd11 "first_not_let" = true)
    (k11 : PySem.W.keepIn K (.ref f11) = true)
    (fi_Lane_init : PySem.W.findIn K (.ref C5) "__init__" = some (some (.ref f12)))
    (fn_Lane_init : PySem.W.isFn K (.ref f12) = true)
    (l12 : K.lookup f12 = some ⟨oc12, od12, .func (PySem.W.fnOf "__init__" "Lane.__init__" (defArgs s_Lane_init) (defBody s_Lane_init) (defScope s_Lane_init) .none kV12 dc12 pm12 an12 cd12 ct12), sl12⟩)
    (c12 : PySem.W.codeIn K cd12 "Lane.__init__" = true)
    (k12 : PySem.W.keepIn K (.ref f12) = true)
    (a13 : PySem.W.nsIn K mainGlobals "check_staircase" = some (some (.ref f13)))
    (l13 : K.lookup f13 = some ⟨oc13, od13, .func (PySem.W.fnOf "check_staircase" "check_staircase" (defArgs s_check_staircase) (defBody s_check_staircase) (defScope s_check_staircase) .none kV13 dc13 pm13 an13 cd13 ct13), sl13⟩)
    (c13 : PySem.W.codeIn K cd13 "check_staircase" = true)
    (k13 : PySem.W.keepIn K (.ref f13) = true)
    (a14 : PySem.W.nsIn K mainGlobals "stair_word" = some (some (.ref f14)))
    (l14 : K.lookup f14 = some ⟨oc14, od14, .func (PySem.W.fnOf "stair_word" "stair_word" (defArgs s_stair_word) (defBody s_stair_word) (defScope s_stair_word) .none kV14 dc14 pm14 an14 cd14 ct14), sl14⟩)
    (c14 : PySem.W.codeIn K cd14 "stair_word" = true)
    (k14 : PySem.W.keepIn K (.ref f14) = true)
    (a15 : PySem.W.nsIn K mainGlobals "stair_of" = some (some (.ref f15)))
    (l15 : K.lookup f15 = some ⟨oc15, od15, .func (PySem.W.fnOf "stair_of" "stair_of" (defArgs s_stair_of) (defBody s_stair_of) (defScope s_stair_of) .none kV15 dc15 pm15 an15 cd15 ct15), sl15⟩)
    (c15 : PySem.W.codeIn K cd15 "stair_of" = true)
    (k15 : PySem.W.keepIn K (.ref f15) = true)
    (a16 : PySem.W.nsIn K mainGlobals "_law_pool" = some (some (.ref f16)))
    (l16 : K.lookup f16 = some ⟨oc16, od16, .func (PySem.W.fnOf "_law_pool" "_law_pool" (defArgs s__law_pool) (defBody s__law_pool) (defScope s__law_pool) .none kV16 dc16 pm16 an16 cd16 ct16), sl16⟩)
    (c16 : PySem.W.codeIn K cd16 "_law_pool" = true)
    (k16 : PySem.W.keepIn K (.ref f16) = true)
    (a17 : PySem.W.nsIn K mainGlobals "_law_draw" = some (some (.ref f17)))
    (l17 : K.lookup f17 = some ⟨oc17, od17, .func (PySem.W.fnOf "_law_draw" "_law_draw" (defArgs s__law_draw) (defBody s__law_draw) (defScope s__law_draw) .none kV17 dc17 pm17 an17 cd17 ct17), sl17⟩)
    (c17 : PySem.W.codeIn K cd17 "_law_draw" = true)
    (k17 : PySem.W.keepIn K (.ref f17) = true)
    (a18 : PySem.W.nsIn K mainGlobals "_law_same" = some (some (.ref f18)))
    (l18 : K.lookup f18 = some ⟨oc18, od18, .func (PySem.W.fnOf "_law_same" "_law_same" (defArgs s__law_same) (defBody s__law_same) (defScope s__law_same) .none kV18 dc18 pm18 an18 cd18 ct18), sl18⟩)
    (c18 : PySem.W.codeIn K cd18 "_law_same" = true)
    (k18 : PySem.W.keepIn K (.ref f18) = true)
    (a19 : PySem.W.nsIn K mainGlobals "_law_stairs" = some (some (.ref f19)))
    (l19 : K.lookup f19 = some ⟨oc19, od19, .func (PySem.W.fnOf "_law_stairs" "_law_stairs" (defArgs s__law_stairs) (defBody s__law_stairs) (defScope s__law_stairs) .none kV19 dc19 pm19 an19 cd19 ct19), sl19⟩)
    (c19 : PySem.W.codeIn K cd19 "_law_stairs" = true)
    (k19 : PySem.W.keepIn K (.ref f19) = true)
    (a20 : PySem.W.nsIn K mainGlobals "_law_word" = some (some (.ref f20)))
    (l20 : K.lookup f20 = some ⟨oc20, od20, .func (PySem.W.fnOf "_law_word" "_law_word" (defArgs s__law_word) (defBody s__law_word) (defScope s__law_word) .none kV20 dc20 pm20 an20 cd20 ct20), sl20⟩)
    (c20 : PySem.W.codeIn K cd20 "_law_word" = true)
    (k20 : PySem.W.keepIn K (.ref f20) = true)
    (a21 : PySem.W.nsIn K mainGlobals "_law_heights" = some (some (.ref f21)))
    (l21 : K.lookup f21 = some ⟨oc21, od21, .func (PySem.W.fnOf "_law_heights" "_law_heights" (defArgs s__law_heights) (defBody s__law_heights) (defScope s__law_heights) .none kV21 dc21 pm21 an21 cd21 ct21), sl21⟩)
    (c21 : PySem.W.codeIn K cd21 "_law_heights" = true)
    (k21 : PySem.W.keepIn K (.ref f21) = true)
    (a22 : PySem.W.nsIn K mainGlobals "_law_stairs_of" = some (some (.ref f22)))
    (l22 : K.lookup f22 = some ⟨oc22, od22, .func (PySem.W.fnOf "_law_stairs_of" "_law_stairs_of" (defArgs s__law_stairs_of) (defBody s__law_stairs_of) (defScope s__law_stairs_of) .none kV22 dc22 pm22 an22 cd22 ct22), sl22⟩)
    (c22 : PySem.W.codeIn K cd22 "_law_stairs_of" = true)
    (k22 : PySem.W.keepIn K (.ref f22) = true)
    (a23 : PySem.W.nsIn K mainGlobals "_law_word_of" = some (some (.ref f23)))
    (l23 : K.lookup f23 = some ⟨oc23, od23, .func (PySem.W.fnOf "_law_word_of" "_law_word_of" (defArgs s__law_word_of) (defBody s__law_word_of) (defScope s__law_word_of) .none kV23 dc23 pm23 an23 cd23 ct23), sl23⟩)
    (c23 : PySem.W.codeIn K cd23 "_law_word_of" = true)
    (k23 : PySem.W.keepIn K (.ref f23) = true)
    (a24 : PySem.W.nsIn K mainGlobals "_law_fault" = some (some (.ref f24)))
    (l24 : K.lookup f24 = some ⟨oc24, od24, .func (PySem.W.fnOf "_law_fault" "_law_fault" (defArgs s__law_fault) (defBody s__law_fault) (defScope s__law_fault) .none kV24 dc24 pm24 an24 cd24 ct24), sl24⟩)
    (c24 : PySem.W.codeIn K cd24 "_law_fault" = true)
    (k24 : PySem.W.keepIn K (.ref f24) = true)
    (a25 : PySem.W.nsIn K mainGlobals "_law_words" = some (some (.ref f25)))
    (l25 : K.lookup f25 = some ⟨oc25, od25, .func (PySem.W.fnOf "_law_words" "_law_words" (defArgs s__law_words) (defBody s__law_words) (defScope s__law_words) .none kV25 dc25 pm25 an25 cd25 ct25), sl25⟩)
    (c25 : PySem.W.codeIn K cd25 "_law_words" = true)
    (k25 : PySem.W.keepIn K (.ref f25) = true)
    (a26 : PySem.W.nsIn K mainGlobals "_law_counts" = some (some (.ref f26)))
    (l26 : K.lookup f26 = some ⟨oc26, od26, .func (PySem.W.fnOf "_law_counts" "_law_counts" (defArgs s__law_counts) (defBody s__law_counts) (defScope s__law_counts) .none kV26 dc26 pm26 an26 cd26 ct26), sl26⟩)
    (c26 : PySem.W.codeIn K cd26 "_law_counts" = true)
    (k26 : PySem.W.keepIn K (.ref f26) = true)
    (a27 : PySem.W.nsIn K mainGlobals "_law_read" = some (some (.ref f27)))
    (l27 : K.lookup f27 = some ⟨oc27, od27, .func (PySem.W.fnOf "_law_read" "_law_read" (defArgs s__law_read) (defBody s__law_read) (defScope s__law_read) .none kV27 dc27 pm27 an27 cd27 ct27), sl27⟩)
    (c27 : PySem.W.codeIn K cd27 "_law_read" = true)
    (k27 : PySem.W.keepIn K (.ref f27) = true)
    (a28 : PySem.W.nsIn K mainGlobals "_law_due" = some (some (.ref f28)))
    (l28 : K.lookup f28 = some ⟨oc28, od28, .func (PySem.W.fnOf "_law_due" "_law_due" (defArgs s__law_due) (defBody s__law_due) (defScope s__law_due) .none kV28 dc28 pm28 an28 cd28 ct28), sl28⟩)
    (c28 : PySem.W.codeIn K cd28 "_law_due" = true)
    (k28 : PySem.W.keepIn K (.ref f28) = true)
    (a29 : PySem.W.nsIn K mainGlobals "_law_lane_word" = some (some (.ref f29)))
    (l29 : K.lookup f29 = some ⟨oc29, od29, .func (PySem.W.fnOf "_law_lane_word" "_law_lane_word" (defArgs s__law_lane_word) (defBody s__law_lane_word) (defScope s__law_lane_word) .none kV29 dc29 pm29 an29 cd29 ct29), sl29⟩)
    (c29 : PySem.W.codeIn K cd29 "_law_lane_word" = true)
    (k29 : PySem.W.keepIn K (.ref f29) = true)
    (a30 : PySem.W.nsIn K mainGlobals "_law_list" = some (some (.ref f30)))
    (l30 : K.lookup f30 = some ⟨oc30, od30, .func (PySem.W.fnOf "_law_list" "_law_list" (defArgs s__law_list) (defBody s__law_list) (defScope s__law_list) .none kV30 dc30 pm30 an30 cd30 ct30), sl30⟩)
    (c30 : PySem.W.codeIn K cd30 "_law_list" = true)
    (k30 : PySem.W.keepIn K (.ref f30) = true)
    (a31 : PySem.W.nsIn K mainGlobals "_law_count" = some (some (.ref f31)))
    (l31 : K.lookup f31 = some ⟨oc31, od31, .func (PySem.W.fnOf "_law_count" "_law_count" (defArgs s__law_count) (defBody s__law_count) (defScope s__law_count) .none kV31 dc31 pm31 an31 cd31 ct31), sl31⟩)
    (c31 : PySem.W.codeIn K cd31 "_law_count" = true)
    (k31 : PySem.W.keepIn K (.ref f31) = true)
    (a32 : PySem.W.nsIn K mainGlobals "_law_lane" = some (some (.ref f32)))
    (l32 : K.lookup f32 = some ⟨oc32, od32, .func (PySem.W.fnOf "_law_lane" "_law_lane" (defArgs s__law_lane) (defBody s__law_lane) (defScope s__law_lane) .none kV32 dc32 pm32 an32 cd32 ct32), sl32⟩)
    (c32 : PySem.W.codeIn K cd32 "_law_lane" = true)
    (k32 : PySem.W.keepIn K (.ref f32) = true)
    (a33 : PySem.W.nsIn K mainGlobals "_law_not_let" = some (some (.ref f33)))
    (l33 : K.lookup f33 = some ⟨oc33, od33, .func (PySem.W.fnOf "_law_not_let" "_law_not_let" (defArgs s__law_not_let) (defBody s__law_not_let) (defScope s__law_not_let) .none kV33 dc33 pm33 an33 cd33 ct33), sl33⟩)
    (c33 : PySem.W.codeIn K cd33 "_law_not_let" = true)
    (k33 : PySem.W.keepIn K (.ref f33) = true)
    (a34 : PySem.W.nsIn K mainGlobals "_law_good" = some (some (.ref f34)))
    (l34 : K.lookup f34 = some ⟨oc34, od34, .func (PySem.W.fnOf "_law_good" "_law_good" (defArgs s__law_good) (defBody s__law_good) (defScope s__law_good) .none kV34 dc34 pm34 an34 cd34 ct34), sl34⟩)
    (c34 : PySem.W.codeIn K cd34 "_law_good" = true)
    (k34 : PySem.W.keepIn K (.ref f34) = true)
    (a35 : PySem.W.nsIn K mainGlobals "_law_bad" = some (some (.ref f35)))
    (l35 : K.lookup f35 = some ⟨oc35, od35, .func (PySem.W.fnOf "_law_bad" "_law_bad" (defArgs s__law_bad) (defBody s__law_bad) (defScope s__law_bad) .none kV35 dc35 pm35 an35 cd35 ct35), sl35⟩)
    (c35 : PySem.W.codeIn K cd35 "_law_bad" = true)
    (k35 : PySem.W.keepIn K (.ref f35) = true)
    (a36 : PySem.W.nsIn K mainGlobals "_law_lists" = some (some (.ref f36)))
    (l36 : K.lookup f36 = some ⟨oc36, od36, .func (PySem.W.fnOf "_law_lists" "_law_lists" (defArgs s__law_lists) (defBody s__law_lists) (defScope s__law_lists) .none kV36 dc36 pm36 an36 cd36 ct36), sl36⟩)
    (c36 : PySem.W.codeIn K cd36 "_law_lists" = true)
    (k36 : PySem.W.keepIn K (.ref f36) = true)
    (a37 : PySem.W.nsIn K mainGlobals "law" = some (some (.ref f37)))
    (l37 : K.lookup f37 = some ⟨oc37, od37, .func (PySem.W.fnOf "law" "law" (defArgs s_law) (defBody s_law) (defScope s_law) .none kV37 dc37 pm37 an37 cd37 ct37), sl37⟩)
    (c37 : PySem.W.codeIn K cd37 "law" = true)
    (k37 : PySem.W.keepIn K (.ref f37) = true)
    (z_abs : PySem.W.nsIn K mainGlobals "abs" = some none)
    (z_enumerate : PySem.W.nsIn K mainGlobals "enumerate" = some none)
    (z_int : PySem.W.nsIn K mainGlobals "int" = some none)
    (z_isinstance : PySem.W.nsIn K mainGlobals "isinstance" = some none)
    (z_len : PySem.W.nsIn K mainGlobals "len" = some none)
    (z_list : PySem.W.nsIn K mainGlobals "list" = some none)
    (z_max : PySem.W.nsIn K mainGlobals "max" = some none)
    (z_min : PySem.W.nsIn K mainGlobals "min" = some none)
    (z_range : PySem.W.nsIn K mainGlobals "range" = some none)
    (z_repr : PySem.W.nsIn K mainGlobals "repr" = some none)
    (z_sum : PySem.W.nsIn K mainGlobals "sum" = some none)
    (z_tuple : PySem.W.nsIn K mainGlobals "tuple" = some none)
    (y_FAR : PySem.W.nsIn K mainGlobals "FAR" = some (some (.int 4000 tk0)))
    (y_MOST : PySem.W.nsIn K mainGlobals "MOST" = some (some (.int 60 tk1)))
    (yd_STEPS : PySem.W.nsIn K mainGlobals "STEPS" = some (some (.ref A_STEPS)))
    (kd_STEPS : kdat K (.tup [(.tup [(.str "("), (.int 1)]), (.tup [(.str ")"), (.int (-1))])]) (.ref A_STEPS) = true)
    (ac0 : PySem.W.nsIn K mainGlobals "RimmachinesError" = some (some (.ref C0)))
    (hg0 : PySem.W.findIn K (.ref C0) "__getattribute__" = some (some (.builtin "BaseException.__getattribute__")))
    (hk0 : PySem.W.findIn K (.ref C0) "__getattr__" = some none)
    (hs0 : PySem.W.subIn K (.ref C0) (.type "BaseException") = some true)
    (hd0 : PySem.W.hasDictIn K C0 = true)
    (ha0 : PySem.W.findIn K (.ref C0) "__class__" = some (some (.builtin "object.__class__")))
    (hm0 : PySem.W.mroIn K C0 (.type "object") = some true)
    (ty0 : PySem.W.typeIn K (.ref C0) = some (.type "type"))
    (nst0 : PySem.W.subIn K (.ref C0) (.type "StopIteration") = some false)
    (ac1 : PySem.W.nsIn K mainGlobals "NumberError" = some (some (.ref C1)))
    (hg1 : PySem.W.findIn K (.ref C1) "__getattribute__" = some (some (.builtin "BaseException.__getattribute__")))
    (hk1 : PySem.W.findIn K (.ref C1) "__getattr__" = some none)
    (hs1 : PySem.W.subIn K (.ref C1) (.type "BaseException") = some true)
    (hd1 : PySem.W.hasDictIn K C1 = true)
    (ha1 : PySem.W.findIn K (.ref C1) "__class__" = some (some (.builtin "object.__class__")))
    (hm1 : PySem.W.mroIn K C1 (.type "object") = some true)
    (ty1 : PySem.W.typeIn K (.ref C1) = some (.type "type"))
    (nst1 : PySem.W.subIn K (.ref C1) (.type "StopIteration") = some false)
    (ac2 : PySem.W.nsIn K mainGlobals "SizeError" = some (some (.ref C2)))
    (hg2 : PySem.W.findIn K (.ref C2) "__getattribute__" = some (some (.builtin "BaseException.__getattribute__")))
    (hk2 : PySem.W.findIn K (.ref C2) "__getattr__" = some none)
    (hs2 : PySem.W.subIn K (.ref C2) (.type "BaseException") = some true)
    (hd2 : PySem.W.hasDictIn K C2 = true)
    (ha2 : PySem.W.findIn K (.ref C2) "__class__" = some (some (.builtin "object.__class__")))
    (hm2 : PySem.W.mroIn K C2 (.type "object") = some true)
    (ty2 : PySem.W.typeIn K (.ref C2) = some (.type "type"))
    (nst2 : PySem.W.subIn K (.ref C2) (.type "StopIteration") = some false)
    (ac3 : PySem.W.nsIn K mainGlobals "LaneError" = some (some (.ref C3)))
    (hg3 : PySem.W.findIn K (.ref C3) "__getattribute__" = some (some (.builtin "BaseException.__getattribute__")))
    (hk3 : PySem.W.findIn K (.ref C3) "__getattr__" = some none)
    (hs3 : PySem.W.subIn K (.ref C3) (.type "BaseException") = some true)
    (hd3 : PySem.W.hasDictIn K C3 = true)
    (ha3 : PySem.W.findIn K (.ref C3) "__class__" = some (some (.builtin "object.__class__")))
    (hm3 : PySem.W.mroIn K C3 (.type "object") = some true)
    (ty3 : PySem.W.typeIn K (.ref C3) = some (.type "type"))
    (nst3 : PySem.W.subIn K (.ref C3) (.type "StopIteration") = some false)
    (ac4 : PySem.W.nsIn K mainGlobals "WordError" = some (some (.ref C4)))
    (hg4 : PySem.W.findIn K (.ref C4) "__getattribute__" = some (some (.builtin "BaseException.__getattribute__")))
    (hk4 : PySem.W.findIn K (.ref C4) "__getattr__" = some none)
    (hs4 : PySem.W.subIn K (.ref C4) (.type "BaseException") = some true)
    (hd4 : PySem.W.hasDictIn K C4 = true)
    (ha4 : PySem.W.findIn K (.ref C4) "__class__" = some (some (.builtin "object.__class__")))
    (hm4 : PySem.W.mroIn K C4 (.type "object") = some true)
    (ty4 : PySem.W.typeIn K (.ref C4) = some (.type "type"))
    (nst4 : PySem.W.subIn K (.ref C4) (.type "StopIteration") = some false)
    (hn : PySem.W.specialIn K (.builtin "object.__class__") "__get__" = some (some (.builtin "getset_descriptor.__get__")))
    (ht : PySem.W.takesIn K (.builtin "object.__class__") = some true)
    (im_comb : PySem.W.nsIn K mainGlobals "comb" = some (some (.builtin "math.comb")))
    (om_Lane : PySem.W.makesIn K C5 = true)
    (oq_Lane : PySem.W.keepIn K (.ref C5) = true)
    (og_Lane : PySem.W.plainGet K C5 Str.empty = true)
    (od_Lane : PySem.W.hasDictIn K C5 = true)
    (oo_Lane : PySem.W.plainOver K C5 = true)
    (os_Lane : PySem.W.findIn K (.ref C5) "__setattr__" = some (some (.builtin "object.__setattr__")))
    (oh_Lane : PySem.W.findIn K (.ref C5) "__class__" = some (some (.builtin "object.__class__")))
    (ow_Lane : PySem.W.mroIn K C5 (.type "object") = some true)
    (on_Lane_stretches : PySem.W.findIn K (.ref C5) "stretches" = some none)
    (on_Lane_height : PySem.W.findIn K (.ref C5) "height" = some none)
    (p0_0 : PySem.W.subIn K (.ref C0) (.ref C0) = some true)
    (p0_1 : PySem.W.subIn K (.ref C0) (.ref C1) = some false)
    (p0_2 : PySem.W.subIn K (.ref C0) (.ref C2) = some false)
    (p0_3 : PySem.W.subIn K (.ref C0) (.ref C3) = some false)
    (p0_4 : PySem.W.subIn K (.ref C0) (.ref C4) = some false)
    (p1_0 : PySem.W.subIn K (.ref C1) (.ref C0) = some true)
    (p1_1 : PySem.W.subIn K (.ref C1) (.ref C1) = some true)
    (p1_2 : PySem.W.subIn K (.ref C1) (.ref C2) = some false)
    (p1_3 : PySem.W.subIn K (.ref C1) (.ref C3) = some false)
    (p1_4 : PySem.W.subIn K (.ref C1) (.ref C4) = some false)
    (p2_0 : PySem.W.subIn K (.ref C2) (.ref C0) = some true)
    (p2_1 : PySem.W.subIn K (.ref C2) (.ref C1) = some false)
    (p2_2 : PySem.W.subIn K (.ref C2) (.ref C2) = some true)
    (p2_3 : PySem.W.subIn K (.ref C2) (.ref C3) = some false)
    (p2_4 : PySem.W.subIn K (.ref C2) (.ref C4) = some false)
    (p3_0 : PySem.W.subIn K (.ref C3) (.ref C0) = some true)
    (p3_1 : PySem.W.subIn K (.ref C3) (.ref C1) = some false)
    (p3_2 : PySem.W.subIn K (.ref C3) (.ref C2) = some false)
    (p3_3 : PySem.W.subIn K (.ref C3) (.ref C3) = some true)
    (p3_4 : PySem.W.subIn K (.ref C3) (.ref C4) = some false)
    (p4_0 : PySem.W.subIn K (.ref C4) (.ref C0) = some true)
    (p4_1 : PySem.W.subIn K (.ref C4) (.ref C1) = some false)
    (p4_2 : PySem.W.subIn K (.ref C4) (.ref C2) = some false)
    (p4_3 : PySem.W.subIn K (.ref C4) (.ref C3) = some false)
    (p4_4 : PySem.W.subIn K (.ref C4) (.ref C4) = some true)
    (no3_at : PySem.W.findIn K (.ref C3) "at" = some none)
    (no1_number : PySem.W.findIn K (.ref C1) "number" = some none)
    (no2_count : PySem.W.findIn K (.ref C2) "count" = some none)
    (no4_at : PySem.W.findIn K (.ref C4) "at" = some none)
    (xl1 : K.lookup C1 = some (excClassObj nm1 q1 C1 N1 bs1 bm1 true sn1 sub1 ab1 col1 dd1 ka0_1 ka1_1 ka2_1 ka3_1 ka5_1 "ValueError.__new__"))
    (xr1 : PySem.HandSPX.refsVE bm1 = true)
    (sa1 : PySem.W.findIn K (.ref C1) "__setattr__" = some (some (.builtin "object.__setattr__")))
    (kc1 : PySem.W.keepIn K (.ref C1) = true)
    (ic1 : PySem.W.findIn K (.ref C1) "__init__" = some (some (.ref fi0)))
    (xl2 : K.lookup C2 = some (excClassObj nm2 q2 C2 N2 bs2 bm2 true sn2 sub2 ab2 col2 dd2 ka0_2 ka1_2 ka2_2 ka3_2 ka5_2 "ValueError.__new__"))
    (xr2 : PySem.HandSPX.refsVE bm2 = true)
    (sa2 : PySem.W.findIn K (.ref C2) "__setattr__" = some (some (.builtin "object.__setattr__")))
    (kc2 : PySem.W.keepIn K (.ref C2) = true)
    (ic2 : PySem.W.findIn K (.ref C2) "__init__" = some (some (.ref fi1)))
    (xl3 : K.lookup C3 = some (excClassObj nm3 q3 C3 N3 bs3 bm3 true sn3 sub3 ab3 col3 dd3 ka0_3 ka1_3 ka2_3 ka3_3 ka5_3 "ValueError.__new__"))
    (xr3 : PySem.HandSPX.refsVE bm3 = true)
    (sa3 : PySem.W.findIn K (.ref C3) "__setattr__" = some (some (.builtin "object.__setattr__")))
    (kc3 : PySem.W.keepIn K (.ref C3) = true)
    (ic3 : PySem.W.findIn K (.ref C3) "__init__" = some (some (.ref fi2)))
    (xl4 : K.lookup C4 = some (excClassObj nm4 q4 C4 N4 bs4 bm4 true sn4 sub4 ab4 col4 dd4 ka0_4 ka1_4 ka2_4 ka3_4 ka5_4 "ValueError.__new__"))
    (xr4 : PySem.HandSPX.refsVE bm4 = true)
    (sa4 : PySem.W.findIn K (.ref C4) "__setattr__" = some (some (.builtin "object.__setattr__")))
    (kc4 : PySem.W.keepIn K (.ref C4) = true)
    (ic4 : PySem.W.findIn K (.ref C4) "__init__" = some (some (.ref fi3)))
    (li0 : K.lookup fi0 = some ⟨oci0, odi0, .func (PySem.W.fnOf "__init__" "NumberError.__init__" (defArgs si_NumberError) (defBody si_NumberError) (defScope si_NumberError) .none kVi0 dci0 pmi0 ani0 cdi0 cti0), sli0⟩)
    (ci0 : PySem.W.codeIn K cdi0 "NumberError.__init__" = true)
    (ki0 : PySem.W.keepIn K (.ref fi0) = true)
    (iti0 : PySem.W.typeIn K (.ref fi0) = some (.type "function"))
    (li1 : K.lookup fi1 = some ⟨oci1, odi1, .func (PySem.W.fnOf "__init__" "SizeError.__init__" (defArgs si_SizeError) (defBody si_SizeError) (defScope si_SizeError) .none kVi1 dci1 pmi1 ani1 cdi1 cti1), sli1⟩)
    (ci1 : PySem.W.codeIn K cdi1 "SizeError.__init__" = true)
    (ki1 : PySem.W.keepIn K (.ref fi1) = true)
    (iti1 : PySem.W.typeIn K (.ref fi1) = some (.type "function"))
    (li2 : K.lookup fi2 = some ⟨oci2, odi2, .func (PySem.W.fnOf "__init__" "LaneError.__init__" (defArgs si_LaneError) (defBody si_LaneError) (defScope si_LaneError) .none kVi2 dci2 pmi2 ani2 cdi2 cti2), sli2⟩)
    (ci2 : PySem.W.codeIn K cdi2 "LaneError.__init__" = true)
    (ki2 : PySem.W.keepIn K (.ref fi2) = true)
    (iti2 : PySem.W.typeIn K (.ref fi2) = some (.type "function"))
    (li3 : K.lookup fi3 = some ⟨oci3, odi3, .func (PySem.W.fnOf "__init__" "WordError.__init__" (defArgs si_WordError) (defBody si_WordError) (defScope si_WordError) .none kVi3 dci3 pmi3 ani3 cdi3 cti3), sli3⟩)
    (ci3 : PySem.W.codeIn K cdi3 "WordError.__init__" = true)
    (ki3 : PySem.W.keepIn K (.ref fi3) = true)
    (iti3 : PySem.W.typeIn K (.ref fi3) = some (.type "function"))
    : ∃ (ca : Nat → Addr) (fd : FuncData), (∀ (s : Shared) (u : Value), BindsTo s fd ⟨[u], []⟩ [("script", u)]) ∧ ∀ base : Heap, K.In base → base.Ns mainGlobals mg → FnG P w K mg base 10 fa fd ["script"] (spF K mg (m_law ca) 1) := by
  have e : f37 = fa := (Value.ref.inj (Option.some.inj (hfa.symm.trans (PySem.W.mg_of X G a37)))).symm
  subst e
  have F0 := fun_mk (st := s_check_number) l0 c0 k0
  have F1 := fun_mk (st := s_check_size) l1 c1 k1
  have F2 := fun_mk (st := s_check_letters) l2 c2 k2
  have F3 := fun_mk (st := s_check_balance) l3 c3 k3
  have F4 := fun_mk (st := s_check_brackets) l4 c4 k4
  have F5 := fun_mk (st := s_heights_between) l5 c5 k5
  have F6 := fun_mk (st := s_bracket_count) l6 c6 k6
  have F7 := fun_mk (st := s_bracket_words) l7 c7 k7
  have F8 := fun_mk (st := s_tops) l8 c8 k8
  have F9 := fun_mk (st := s_bottoms) l9 c9 k9
  have F10 := fun_mk (st := s_let_shifts) l10 c10 k10
  have F11 := fun_mk (st := s_first_not_let) l11 c11 k11
  have F12 := fun_mk (st := s_Lane_init) l12 c12 k12
  have F13 := fun_mk (st := s_check_staircase) l13 c13 k13
  have F14 := fun_mk (st := s_stair_word) l14 c14 k14
  have F15 := fun_mk (st := s_stair_of) l15 c15 k15
  have F16 := fun_mk (st := s__law_pool) l16 c16 k16
  have F17 := fun_mk (st := s__law_draw) l17 c17 k17
  have F18 := fun_mk (st := s__law_same) l18 c18 k18
  have F19 := fun_mk (st := s__law_stairs) l19 c19 k19
  have F20 := fun_mk (st := s__law_word) l20 c20 k20
  have F21 := fun_mk (st := s__law_heights) l21 c21 k21
  have F22 := fun_mk (st := s__law_stairs_of) l22 c22 k22
  have F23 := fun_mk (st := s__law_word_of) l23 c23 k23
  have F24 := fun_mk (st := s__law_fault) l24 c24 k24
  have F25 := fun_mk (st := s__law_words) l25 c25 k25
  have F26 := fun_mk (st := s__law_counts) l26 c26 k26
  have F27 := fun_mk (st := s__law_read) l27 c27 k27
  have F28 := fun_mk (st := s__law_due) l28 c28 k28
  have F29 := fun_mk (st := s__law_lane_word) l29 c29 k29
  have F30 := fun_mk (st := s__law_list) l30 c30 k30
  have F31 := fun_mk (st := s__law_count) l31 c31 k31
  have F32 := fun_mk (st := s__law_lane) l32 c32 k32
  have F33 := fun_mk (st := s__law_not_let) l33 c33 k33
  have F34 := fun_mk (st := s__law_good) l34 c34 k34
  have F35 := fun_mk (st := s__law_bad) l35 c35 k35
  have F36 := fun_mk (st := s__law_lists) l36 c36 k36
  have F37 := fun_mk (st := s_law) l37 c37 k37
  have Fi0 := fun_mk (st := si_NumberError) li0 ci0 ki0
  have Fi1 := fun_mk (st := si_SizeError) li1 ci1 ki1
  have Fi2 := fun_mk (st := si_LaneError) li2 ci2 ki2
  have Fi3 := fun_mk (st := si_WordError) li3 ci3 ki3
  have T : Txt K mg (fun i => match i with | 0 => f0 | 1 => f1 | 2 => f2 | 3 => f3 | 4 => f4 | 5 => f5 | 6 => f6 | 7 => f7 | 8 => f8 | 9 => f9 | 10 => f10 | 11 => f11 | 12 => f12 | 13 => f13 | 14 => f14 | 15 => f15 | 16 => f16 | 17 => f17 | 18 => f18 | 19 => f19 | 20 => f20 | 21 => f21 | 22 => f22 | 23 => f23 | 24 => f24 | 25 => f25 | 26 => f26 | 27 => f27 | 28 => f28 | 29 => f29 | 30 => f30 | 31 => f31 | 32 => f32 | 33 => f33 | 34 => f34 | 35 => f35 | 36 => f36 | 37 => f37 | _ => 0) (fun i => match i with | 0 => C0 | 1 => C1 | 2 => C2 | 3 => C3 | 4 => C4 | 5 => C5 | _ => 0) (fun i => match i with | 0 => fi0 | 1 => fi1 | 2 => fi2 | 3 => fi3 | _ => 0)
    (fun i => match i with | 0 => PySem.W.fnOf "check_number" "check_number" (defArgs s_check_number) (defBody s_check_number) (defScope s_check_number) .none kV0 dc0 pm0 an0 cd0 ct0 | 1 => PySem.W.fnOf "check_size" "check_size" (defArgs s_check_size) (defBody s_check_size) (defScope s_check_size) .none kV1 dc1 pm1 an1 cd1 ct1 | 2 => PySem.W.fnOf "check_letters" "check_letters" (defArgs s_check_letters) (defBody s_check_letters) (defScope s_check_letters) .none kV2 dc2 pm2 an2 cd2 ct2 | 3 => PySem.W.fnOf "check_balance" "check_balance" (defArgs s_check_balance) (defBody s_check_balance) (defScope s_check_balance) .none kV3 dc3 pm3 an3 cd3 ct3 | 4 => PySem.W.fnOf "check_brackets" "check_brackets" (defArgs s_check_brackets) (defBody s_check_brackets) (defScope s_check_brackets) .none kV4 dc4 pm4 an4 cd4 ct4 | 5 => PySem.W.fnOf "heights_between" "heights_between" (defArgs s_heights_between) (defBody s_heights_between) (defScope s_heights_between) .none kV5 dc5 pm5 an5 cd5 ct5 | 6 => PySem.W.fnOf "bracket_count" "bracket_count" (defArgs s_bracket_count) (defBody s_bracket_count) (defScope s_bracket_count) .none kV6 dc6 pm6 an6 cd6 ct6 | 7 => PySem.W.fnOf "bracket_words" "bracket_words" (defArgs s_bracket_words) (defBody s_bracket_words) (defScope s_bracket_words) .none kV7 dc7 pm7 an7 cd7 ct7 | 8 => PySem.W.fnOf "tops" "tops" (defArgs s_tops) (defBody s_tops) (defScope s_tops) .none kV8 dc8 pm8 an8 cd8 ct8 | 9 => PySem.W.fnOf "bottoms" "bottoms" (defArgs s_bottoms) (defBody s_bottoms) (defScope s_bottoms) .none kV9 dc9 pm9 an9 cd9 ct9 | 10 => PySem.W.fnOf "let_shifts" "let_shifts" (defArgs s_let_shifts) (defBody s_let_shifts) (defScope s_let_shifts) .none kV10 dc10 pm10 an10 cd10 ct10 | 11 => PySem.W.fnOf "first_not_let" "first_not_let" (defArgs s_first_not_let) (defBody s_first_not_let) (defScope s_first_not_let) .none kV11 dc11 pm11 an11 cd11 ct11 | 12 => PySem.W.fnOf "__init__" "Lane.__init__" (defArgs s_Lane_init) (defBody s_Lane_init) (defScope s_Lane_init) .none kV12 dc12 pm12 an12 cd12 ct12 | 13 => PySem.W.fnOf "check_staircase" "check_staircase" (defArgs s_check_staircase) (defBody s_check_staircase) (defScope s_check_staircase) .none kV13 dc13 pm13 an13 cd13 ct13 | 14 => PySem.W.fnOf "stair_word" "stair_word" (defArgs s_stair_word) (defBody s_stair_word) (defScope s_stair_word) .none kV14 dc14 pm14 an14 cd14 ct14 | 15 => PySem.W.fnOf "stair_of" "stair_of" (defArgs s_stair_of) (defBody s_stair_of) (defScope s_stair_of) .none kV15 dc15 pm15 an15 cd15 ct15 | 16 => PySem.W.fnOf "_law_pool" "_law_pool" (defArgs s__law_pool) (defBody s__law_pool) (defScope s__law_pool) .none kV16 dc16 pm16 an16 cd16 ct16 | 17 => PySem.W.fnOf "_law_draw" "_law_draw" (defArgs s__law_draw) (defBody s__law_draw) (defScope s__law_draw) .none kV17 dc17 pm17 an17 cd17 ct17 | 18 => PySem.W.fnOf "_law_same" "_law_same" (defArgs s__law_same) (defBody s__law_same) (defScope s__law_same) .none kV18 dc18 pm18 an18 cd18 ct18 | 19 => PySem.W.fnOf "_law_stairs" "_law_stairs" (defArgs s__law_stairs) (defBody s__law_stairs) (defScope s__law_stairs) .none kV19 dc19 pm19 an19 cd19 ct19 | 20 => PySem.W.fnOf "_law_word" "_law_word" (defArgs s__law_word) (defBody s__law_word) (defScope s__law_word) .none kV20 dc20 pm20 an20 cd20 ct20 | 21 => PySem.W.fnOf "_law_heights" "_law_heights" (defArgs s__law_heights) (defBody s__law_heights) (defScope s__law_heights) .none kV21 dc21 pm21 an21 cd21 ct21 | 22 => PySem.W.fnOf "_law_stairs_of" "_law_stairs_of" (defArgs s__law_stairs_of) (defBody s__law_stairs_of) (defScope s__law_stairs_of) .none kV22 dc22 pm22 an22 cd22 ct22 | 23 => PySem.W.fnOf "_law_word_of" "_law_word_of" (defArgs s__law_word_of) (defBody s__law_word_of) (defScope s__law_word_of) .none kV23 dc23 pm23 an23 cd23 ct23 | 24 => PySem.W.fnOf "_law_fault" "_law_fault" (defArgs s__law_fault) (defBody s__law_fault) (defScope s__law_fault) .none kV24 dc24 pm24 an24 cd24 ct24 | 25 => PySem.W.fnOf "_law_words" "_law_words" (defArgs s__law_words) (defBody s__law_words) (defScope s__law_words) .none kV25 dc25 pm25 an25 cd25 ct25 | 26 => PySem.W.fnOf "_law_counts" "_law_counts" (defArgs s__law_counts) (defBody s__law_counts) (defScope s__law_counts) .none kV26 dc26 pm26 an26 cd26 ct26 | 27 => PySem.W.fnOf "_law_read" "_law_read" (defArgs s__law_read) (defBody s__law_read) (defScope s__law_read) .none kV27 dc27 pm27 an27 cd27 ct27 | 28 => PySem.W.fnOf "_law_due" "_law_due" (defArgs s__law_due) (defBody s__law_due) (defScope s__law_due) .none kV28 dc28 pm28 an28 cd28 ct28 | 29 => PySem.W.fnOf "_law_lane_word" "_law_lane_word" (defArgs s__law_lane_word) (defBody s__law_lane_word) (defScope s__law_lane_word) .none kV29 dc29 pm29 an29 cd29 ct29 | 30 => PySem.W.fnOf "_law_list" "_law_list" (defArgs s__law_list) (defBody s__law_list) (defScope s__law_list) .none kV30 dc30 pm30 an30 cd30 ct30 | 31 => PySem.W.fnOf "_law_count" "_law_count" (defArgs s__law_count) (defBody s__law_count) (defScope s__law_count) .none kV31 dc31 pm31 an31 cd31 ct31 | 32 => PySem.W.fnOf "_law_lane" "_law_lane" (defArgs s__law_lane) (defBody s__law_lane) (defScope s__law_lane) .none kV32 dc32 pm32 an32 cd32 ct32 | 33 => PySem.W.fnOf "_law_not_let" "_law_not_let" (defArgs s__law_not_let) (defBody s__law_not_let) (defScope s__law_not_let) .none kV33 dc33 pm33 an33 cd33 ct33 | 34 => PySem.W.fnOf "_law_good" "_law_good" (defArgs s__law_good) (defBody s__law_good) (defScope s__law_good) .none kV34 dc34 pm34 an34 cd34 ct34 | 35 => PySem.W.fnOf "_law_bad" "_law_bad" (defArgs s__law_bad) (defBody s__law_bad) (defScope s__law_bad) .none kV35 dc35 pm35 an35 cd35 ct35 | 36 => PySem.W.fnOf "_law_lists" "_law_lists" (defArgs s__law_lists) (defBody s__law_lists) (defScope s__law_lists) .none kV36 dc36 pm36 an36 cd36 ct36 | 37 => PySem.W.fnOf "law" "law" (defArgs s_law) (defBody s_law) (defScope s_law) .none kV37 dc37 pm37 an37 cd37 ct37 | _ => PySem.W.fnOf "check_number" "check_number" (defArgs s_check_number) (defBody s_check_number) (defScope s_check_number) .none kV0 dc0 pm0 an0 cd0 ct0)
    (fun i => match i with | 0 => PySem.W.fnOf "__init__" "NumberError.__init__" (defArgs si_NumberError) (defBody si_NumberError) (defScope si_NumberError) .none kVi0 dci0 pmi0 ani0 cdi0 cti0 | 1 => PySem.W.fnOf "__init__" "SizeError.__init__" (defArgs si_SizeError) (defBody si_SizeError) (defScope si_SizeError) .none kVi1 dci1 pmi1 ani1 cdi1 cti1 | 2 => PySem.W.fnOf "__init__" "LaneError.__init__" (defArgs si_LaneError) (defBody si_LaneError) (defScope si_LaneError) .none kVi2 dci2 pmi2 ani2 cdi2 cti2 | 3 => PySem.W.fnOf "__init__" "WordError.__init__" (defArgs si_WordError) (defBody si_WordError) (defScope si_WordError) .none kVi3 dci3 pmi3 ani3 cdi3 cti3 | _ => PySem.W.fnOf "check_number" "check_number" (defArgs s_check_number) (defBody s_check_number) (defScope s_check_number) .none kV0 dc0 pm0 an0 cd0 ct0) (fun i => match i with | 0 => tk0 | 1 => tk1 | _ => 0) := {
    g_check_number := PySem.W.mg_of X G a0
    F_check_number := F0
    b_check_number := F0.binds (ps := ["number", "least", "most"]) (fun _ _ _ _ _ _ us hl => match us, hl with | [_, _, _], _ => rfl)
    g_check_size := PySem.W.mg_of X G a1
    F_check_size := F1
    b_check_size := F1.binds (ps := ["count", "least", "most"]) (fun _ _ _ _ _ _ us hl => match us, hl with | [_, _, _], _ => rfl)
    g_check_letters := PySem.W.mg_of X G a2
    F_check_letters := F2
    b_check_letters := F2.binds (ps := ["word", "letters"]) (fun _ _ _ _ _ _ us hl => match us, hl with | [_, _], _ => rfl)
    g_check_balance := PySem.W.mg_of X G a3
    F_check_balance := F3
    b_check_balance := F3.binds (ps := ["word", "up", "down"]) (fun _ _ _ _ _ _ us hl => match us, hl with | [_, _, _], _ => rfl)
    g_check_brackets := PySem.W.mg_of X G a4
    F_check_brackets := F4
    b_check_brackets := F4.binds (ps := ["word", "least", "most"]) (fun _ _ _ _ _ _ us hl => match us, hl with | [_, _, _], _ => rfl)
    g_heights_between := PySem.W.mg_of X G a5
    F_heights_between := F5
    b_heights_between := F5.binds (ps := ["word", "before", "after"]) (fun _ _ _ _ _ _ us hl => match us, hl with | [_, _, _], _ => rfl)
    g_bracket_count := PySem.W.mg_of X G a6
    F_bracket_count := F6
    b_bracket_count := F6.binds (ps := ["half"]) (fun _ _ _ _ _ _ us hl => match us, hl with | [_], _ => rfl)
    g_bracket_words := PySem.W.mg_of X G a7
    F_bracket_words := F7
    b_bracket_words := F7.binds (ps := ["half"]) (fun _ _ _ _ _ _ us hl => match us, hl with | [_], _ => rfl)
    g_tops := PySem.W.mg_of X G a8
    F_tops := F8
    b_tops := F8.binds (ps := ["word"]) (fun _ _ _ _ _ _ us hl => match us, hl with | [_], _ => rfl)
    g_bottoms := PySem.W.mg_of X G a9
    F_bottoms := F9
    b_bottoms := F9.binds (ps := ["word"]) (fun _ _ _ _ _ _ us hl => match us, hl with | [_], _ => rfl)
    g_let_shifts := PySem.W.mg_of X G a10
    F_let_shifts := F10
    b_let_shifts := F10.binds (ps := ["rule", "below", "above"]) (fun _ _ _ _ _ _ us hl => match us, hl with | [_, _, _], _ => rfl)
    g_first_not_let := PySem.W.mg_of X G a11
    F_first_not_let := F11
    b_first_not_let := F11.binds (ps := ["rule", "stretches"]) (fun _ _ _ _ _ _ us hl => match us, hl with | [_, _], _ => rfl)
    F_Lane_init := F12
    b_Lane_init := F12.binds (ps := ["self", "stretches"]) (fun _ _ _ _ _ _ us hl => match us, hl with | [_, _], _ => rfl)
    g_check_staircase := PySem.W.mg_of X G a13
    F_check_staircase := F13
    b_check_staircase := F13.binds (ps := ["lane"]) (fun _ _ _ _ _ _ us hl => match us, hl with | [_], _ => rfl)
    g_stair_word := PySem.W.mg_of X G a14
    F_stair_word := F14
    b_stair_word := F14.binds (ps := ["lane"]) (fun _ _ _ _ _ _ us hl => match us, hl with | [_], _ => rfl)
    g_stair_of := PySem.W.mg_of X G a15
    F_stair_of := F15
    b_stair_of := F15.binds (ps := ["word"]) (fun _ _ _ _ _ _ us hl => match us, hl with | [_], _ => rfl)
    g__law_pool := PySem.W.mg_of X G a16
    F__law_pool := F16
    b__law_pool := F16.binds (ps := ["script"]) (fun _ _ _ _ _ _ us hl => match us, hl with | [_], _ => rfl)
    g__law_draw := PySem.W.mg_of X G a17
    F__law_draw := F17
    b__law_draw := F17.binds (ps := ["pool", "many"]) (fun _ _ _ _ _ _ us hl => match us, hl with | [_, _], _ => rfl)
    g__law_same := PySem.W.mg_of X G a18
    F__law_same := F18
    b__law_same := F18.binds (ps := ["told", "due"]) (fun _ _ _ _ _ _ us hl => match us, hl with | [_, _], _ => rfl)
    g__law_stairs := PySem.W.mg_of X G a19
    F__law_stairs := F19
    b__law_stairs := F19.binds (ps := ["pool", "rows"]) (fun _ _ _ _ _ _ us hl => match us, hl with | [_, _], _ => rfl)
    g__law_word := PySem.W.mg_of X G a20
    F__law_word := F20
    b__law_word := F20.binds (ps := ["pool", "half"]) (fun _ _ _ _ _ _ us hl => match us, hl with | [_, _], _ => rfl)
    g__law_heights := PySem.W.mg_of X G a21
    F__law_heights := F21
    b__law_heights := F21.binds (ps := ["word", "pair"]) (fun _ _ _ _ _ _ us hl => match us, hl with | [_, _], _ => rfl)
    g__law_stairs_of := PySem.W.mg_of X G a22
    F__law_stairs_of := F22
    b__law_stairs_of := F22.binds (ps := ["word"]) (fun _ _ _ _ _ _ us hl => match us, hl with | [_], _ => rfl)
    g__law_word_of := PySem.W.mg_of X G a23
    F__law_word_of := F23
    b__law_word_of := F23.binds (ps := ["stairs"]) (fun _ _ _ _ _ _ us hl => match us, hl with | [_], _ => rfl)
    g__law_fault := PySem.W.mg_of X G a24
    F__law_fault := F24
    b__law_fault := F24.binds (ps := ["word"]) (fun _ _ _ _ _ _ us hl => match us, hl with | [_], _ => rfl)
    g__law_words := PySem.W.mg_of X G a25
    F__law_words := F25
    b__law_words := F25.binds (ps := ["half"]) (fun _ _ _ _ _ _ us hl => match us, hl with | [_], _ => rfl)
    g__law_counts := PySem.W.mg_of X G a26
    F__law_counts := F26
    b__law_counts := F26.binds (ps := ["most"]) (fun _ _ _ _ _ _ us hl => match us, hl with | [_], _ => rfl)
    g__law_read := PySem.W.mg_of X G a27
    F__law_read := F27
    b__law_read := F27.binds (ps := ["which", "word"]) (fun _ _ _ _ _ _ us hl => match us, hl with | [_, _], _ => rfl)
    g__law_due := PySem.W.mg_of X G a28
    F__law_due := F28
    b__law_due := F28.binds (ps := ["which", "word"]) (fun _ _ _ _ _ _ us hl => match us, hl with | [_, _], _ => rfl)
    g__law_lane_word := PySem.W.mg_of X G a29
    F__law_lane_word := F29
    b__law_lane_word := F29.binds (ps := ["lane"]) (fun _ _ _ _ _ _ us hl => match us, hl with | [_], _ => rfl)
    g__law_list := PySem.W.mg_of X G a30
    F__law_list := F30
    b__law_list := F30.binds (ps := ["half"]) (fun _ _ _ _ _ _ us hl => match us, hl with | [_], _ => rfl)
    g__law_count := PySem.W.mg_of X G a31
    F__law_count := F31
    b__law_count := F31.binds (ps := ["half"]) (fun _ _ _ _ _ _ us hl => match us, hl with | [_], _ => rfl)
    g__law_lane := PySem.W.mg_of X G a32
    F__law_lane := F32
    b__law_lane := F32.binds (ps := ["pool", "stairs"]) (fun _ _ _ _ _ _ us hl => match us, hl with | [_, _], _ => rfl)
    g__law_not_let := PySem.W.mg_of X G a33
    F__law_not_let := F33
    b__law_not_let := F33.binds (ps := ["pool", "stairs"]) (fun _ _ _ _ _ _ us hl => match us, hl with | [_, _], _ => rfl)
    g__law_good := PySem.W.mg_of X G a34
    F__law_good := F34
    b__law_good := F34.binds (ps := ["word"]) (fun _ _ _ _ _ _ us hl => match us, hl with | [_], _ => rfl)
    g__law_bad := PySem.W.mg_of X G a35
    F__law_bad := F35
    b__law_bad := F35.binds (ps := ["pool", "word", "other"]) (fun _ _ _ _ _ _ us hl => match us, hl with | [_, _, _], _ => rfl)
    g__law_lists := PySem.W.mg_of X G a36
    F__law_lists := F36
    b__law_lists := F36.binds (ps := ["pool"]) (fun _ _ _ _ _ _ us hl => match us, hl with | [_], _ => rfl)
    g_law := PySem.W.mg_of X G a37
    F_law := F37
    b_law := F37.binds (ps := ["script"]) (fun _ _ _ _ _ _ us hl => match us, hl with | [_], _ => rfl)
    kw_stair_of := fun s ws _ hl => match ws, hl with | [_], _ => .of_eq rfl
    i_comb := PySem.W.mg_of X G im_comb
    gc_Lane := PySem.W.mg_of X G ac5
    in_Lane := ⟨⟨og_Lane, od_Lane, oo_Lane, os_Lane⟩, oh_Lane, hn, ht, ow_Lane⟩
    mk_Lane := ⟨om_Lane, fi_Lane_init, fn_Lane_init, oq_Lane⟩
    fld := by
      intro q hq
      simp only [FT, List.mem_cons, List.not_mem_nil, or_false] at hq
      rcases hq with rfl | rfl
      · exact ⟨⟨og_Lane, od_Lane, oo_Lane, os_Lane⟩, on_Lane_stretches⟩
      · exact ⟨⟨og_Lane, od_Lane, oo_Lane, os_Lane⟩, on_Lane_height⟩
    z_abs := PySem.W.mg_none_of X G z_abs
    z_enumerate := PySem.W.mg_none_of X G z_enumerate
    z_int := PySem.W.mg_none_of X G z_int
    z_isinstance := PySem.W.mg_none_of X G z_isinstance
    z_len := PySem.W.mg_none_of X G z_len
    z_list := PySem.W.mg_none_of X G z_list
    z_max := PySem.W.mg_none_of X G z_max
    z_min := PySem.W.mg_none_of X G z_min
    z_range := PySem.W.mg_none_of X G z_range
    z_repr := PySem.W.mg_none_of X G z_repr
    z_sum := PySem.W.mg_none_of X G z_sum
    z_tuple := PySem.W.mg_none_of X G z_tuple
    c_FAR := PySem.W.mg_of X G y_FAR
    c_MOST := PySem.W.mg_of X G y_MOST
    cd_STEPS := .of (PySem.W.mg_of X G yd_STEPS) kd_STEPS
    gc_RimmachinesError := PySem.W.mg_of X G ac0
    gc_NumberError := PySem.W.mg_of X G ac1
    gc_SizeError := PySem.W.mg_of X G ac2
    gc_LaneError := PySem.W.mg_of X G ac3
    gc_WordError := PySem.W.mg_of X G ac4
    ex := by
      have hC : ∀ {n : Str} {a C : Addr}, mg n = some (.ref a) → mg n = some (.ref C) → C = a := fun h1 h2 => by rw [h1] at h2; exact (Value.ref.inj (Option.some.inj h2)).symm
      have g0 := PySem.W.mg_of X G ac0
      have g1 := PySem.W.mg_of X G ac1
      have g2 := PySem.W.mg_of X G ac2
      have g3 := PySem.W.mg_of X G ac3
      have g4 := PySem.W.mg_of X G ac4
      refine ⟨?_, ?_, ?_⟩
      · intro n hn
        simp only [exCls, List.mem_cons, List.not_mem_nil, or_false] at hn
        rcases hn with rfl | rfl | rfl | rfl | rfl
        · exact ⟨_, g0, ⟨hg0, hk0, hs0, hd0, ha0, hn, ht, hm0⟩, ty0, p0_0⟩
        · exact ⟨_, g1, ⟨hg1, hk1, hs1, hd1, ha1, hn, ht, hm1⟩, ty1, p1_1⟩
        · exact ⟨_, g2, ⟨hg2, hk2, hs2, hd2, ha2, hn, ht, hm2⟩, ty2, p2_2⟩
        · exact ⟨_, g3, ⟨hg3, hk3, hs3, hd3, ha3, hn, ht, hm3⟩, ty3, p3_3⟩
        · exact ⟨_, g4, ⟨hg4, hk4, hs4, hd4, ha4, hn, ht, hm4⟩, ty4, p4_4⟩
      · intro q hq C D h1 h2
        simp only [exPrs, List.mem_cons, List.not_mem_nil, or_false] at hq
        rcases hq with rfl | rfl | rfl | rfl | rfl | rfl | rfl | rfl | rfl | rfl | rfl | rfl | rfl | rfl | rfl | rfl | rfl | rfl | rfl | rfl | rfl | rfl | rfl | rfl | rfl
        · obtain rfl := hC g0 h1
          obtain rfl := hC g0 h2
          exact p0_0
        · obtain rfl := hC g0 h1
          obtain rfl := hC g1 h2
          exact p0_1
        · obtain rfl := hC g0 h1
          obtain rfl := hC g2 h2
          exact p0_2
        · obtain rfl := hC g0 h1
          obtain rfl := hC g3 h2
          exact p0_3
        · obtain rfl := hC g0 h1
          obtain rfl := hC g4 h2
          exact p0_4
        · obtain rfl := hC g1 h1
          obtain rfl := hC g0 h2
          exact p1_0
        · obtain rfl := hC g1 h1
          obtain rfl := hC g1 h2
          exact p1_1
        · obtain rfl := hC g1 h1
          obtain rfl := hC g2 h2
          exact p1_2
        · obtain rfl := hC g1 h1
          obtain rfl := hC g3 h2
          exact p1_3
        · obtain rfl := hC g1 h1
          obtain rfl := hC g4 h2
          exact p1_4
        · obtain rfl := hC g2 h1
          obtain rfl := hC g0 h2
          exact p2_0
        · obtain rfl := hC g2 h1
          obtain rfl := hC g1 h2
          exact p2_1
        · obtain rfl := hC g2 h1
          obtain rfl := hC g2 h2
          exact p2_2
        · obtain rfl := hC g2 h1
          obtain rfl := hC g3 h2
          exact p2_3
        · obtain rfl := hC g2 h1
          obtain rfl := hC g4 h2
          exact p2_4
        · obtain rfl := hC g3 h1
          obtain rfl := hC g0 h2
          exact p3_0
        · obtain rfl := hC g3 h1
          obtain rfl := hC g1 h2
          exact p3_1
        · obtain rfl := hC g3 h1
          obtain rfl := hC g2 h2
          exact p3_2
        · obtain rfl := hC g3 h1
          obtain rfl := hC g3 h2
          exact p3_3
        · obtain rfl := hC g3 h1
          obtain rfl := hC g4 h2
          exact p3_4
        · obtain rfl := hC g4 h1
          obtain rfl := hC g0 h2
          exact p4_0
        · obtain rfl := hC g4 h1
          obtain rfl := hC g1 h2
          exact p4_1
        · obtain rfl := hC g4 h1
          obtain rfl := hC g2 h2
          exact p4_2
        · obtain rfl := hC g4 h1
          obtain rfl := hC g3 h2
          exact p4_3
        · obtain rfl := hC g4 h1
          obtain rfl := hC g4 h2
          exact p4_4
      · intro q hq C h1
        simp only [exFld, List.mem_cons, List.not_mem_nil, or_false] at hq
        rcases hq with rfl | rfl | rfl | rfl
        · obtain rfl := hC g3 h1
          exact no3_at
        · obtain rfl := hC g1 h1
          exact no1_number
        · obtain rfl := hC g2 h1
          exact no2_count
        · obtain rfl := hC g4 h1
          exact no4_at
    nst := by
      have hC : ∀ {n : Str} {a C : Addr}, mg n = some (.ref a) → mg n = some (.ref C) → C = a := fun h1 h2 => by rw [h1] at h2; exact (Value.ref.inj (Option.some.inj h2)).symm
      intro n hn C h1
      simp only [exCls, List.mem_cons, List.not_mem_nil, or_false] at hn
      rcases hn with rfl | rfl | rfl | rfl | rfl
      · obtain rfl := hC (PySem.W.mg_of X G ac0) h1
        exact nst0
      · obtain rfl := hC (PySem.W.mg_of X G ac1) h1
        exact nst1
      · obtain rfl := hC (PySem.W.mg_of X G ac2) h1
        exact nst2
      · obtain rfl := hC (PySem.W.mg_of X G ac3) h1
        exact nst3
      · obtain rfl := hC (PySem.W.mg_of X G ac4) h1
        exact nst4
    oc_NumberError := ⟨⟨_, _, _, _, _, _, _, _, _, _, _, _, _, _, _, xl1, xr1⟩, sa1, hs1, ty1, kc1⟩
    ic_NumberError := ic1
    no_NumberError := no1_number
    oc_SizeError := ⟨⟨_, _, _, _, _, _, _, _, _, _, _, _, _, _, _, xl2, xr2⟩, sa2, hs2, ty2, kc2⟩
    ic_SizeError := ic2
    no_SizeError := no2_count
    oc_LaneError := ⟨⟨_, _, _, _, _, _, _, _, _, _, _, _, _, _, _, xl3, xr3⟩, sa3, hs3, ty3, kc3⟩
    ic_LaneError := ic3
    no_LaneError := no3_at
    oc_WordError := ⟨⟨_, _, _, _, _, _, _, _, _, _, _, _, _, _, _, xl4, xr4⟩, sa4, hs4, ty4, kc4⟩
    ic_WordError := ic4
    no_WordError := no4_at
    Fi_NumberError := Fi0
    bi_NumberError := Fi0.binds (ps := ["self", "number"]) (fun _ _ _ _ _ _ us hl => match us, hl with | [_, _], _ => rfl)
    it_NumberError := iti0
    Fi_SizeError := Fi1
    bi_SizeError := Fi1.binds (ps := ["self", "count"]) (fun _ _ _ _ _ _ us hl => match us, hl with | [_, _], _ => rfl)
    it_SizeError := iti1
    Fi_LaneError := Fi2
    bi_LaneError := Fi2.binds (ps := ["self", "at"]) (fun _ _ _ _ _ _ us hl => match us, hl with | [_, _], _ => rfl)
    it_LaneError := iti2
    Fi_WordError := Fi3
    bi_WordError := Fi3.binds (ps := ["self", "at"]) (fun _ _ _ _ _ _ us hl => match us, hl with | [_, _], _ => rfl)
    it_WordError := iti3
  }
  exact ⟨_, _, fun s u => .of_eq rfl, fun base _ _ => G_law T⟩
end K41
end
section
set_option Elab.async false
set_option linter.all false
set_option maxRecDepth 100000
set_option maxHeartbeats 4000000
namespace P0
open PySem PySem.Spec L2
open PyProof.Rows hiding St
def bR {α β : Type} (r : R α) (f : α → M β) : R β := match r with
  | .ok a ρ => f a ρ
  | .exc e ρ => .exc e ρ
  | .bad => .bad
@[simp] theorem bR_ok {α β : Type} {a : α} {ρ : VE} {f : α → M β} : bR (.ok a ρ) f = f a ρ := (rfl)
@[simp] theorem bR_exc {α β : Type} {e : Er} {ρ : VE} {f : α → M β} : bR (.exc e ρ) f = .exc e ρ := (rfl)
@[simp] theorem bR_bad {α β : Type} {f : α → M β} : bR .bad f = .bad := (rfl)
@[simp ↓ high] theorem run_bR {α β : Type} (m : M α) (f : α → M β) (ρ : VE) : (m >>= f) ρ = bR (m ρ) f := (rfl)
@[simp ↓] theorem run_grd' (c : Prop) [Decidable c] (ρ : VE) : M.grd c ρ = if c then .ok () ρ else .bad := (rfl)
@[simp ↓] theorem run_badM {α : Type} (ρ : VE) : (M.bad : M α) ρ = .bad := (rfl)
@[simp ↓] theorem x_sub (m : M RV) (ρ : VE) : sub m ρ = ((do
  let r ← m
  pure (fz r)) : M AV) ρ := (rfl)
@[simp ↓] theorem x_con (a : AV) (ρ : VE) : con a ρ = ( match a with
  | .d d => .ok d ρ
  | .bor i => match ρ[i]? with
    | some (.mu _ d) => .ok d ρ
    | some (.val d) => .ok d ρ
    | _ => .bad) := (rfl)
@[simp ↓] theorem x_ali (a : AV) (ρ : VE) : ali a ρ = ( match a with
  | .d d => .ok d ρ
  | .bor i => match ρ[i]? with
    | some (.mu false d) => .ok d (ρ.set i (.val d))
    | some (.ot t) => .ok t.er (ρ.set i (.val t.er))
    | some (.val d) => .ok d ρ
    | _ => .bad) := (rfl)
@[simp ↓] theorem x_eV (i : Nat) (ρ : VE) : eV i ρ = ( match ρ[i]? with
  | some (.val d) => .ok (.d d) ρ
  | some (.mu _ _) => .ok (.bor i) ρ
  | some (.ot _) => .ok (.bor i) ρ
  | _ => .bad) := (rfl)
@[simp ↓] theorem x_eC (d : Dv) (ρ : VE) : eC d ρ = ((pure (.d d)) : M RV) ρ := (rfl)
@[simp ↓] theorem x_b2 (p : Dv → Dv → M RV) (ma mb : M AV) (ρ : VE) : b2 p ma mb ρ = ((do
  let x ← ma
  let y ← mb
  let d ← con x
  let e ← con y
  p d e) : M RV) ρ := (rfl)
@[simp ↓] theorem x_toB (m : M RV) (ρ : VE) : toB m ρ = ((do
  let r ← m
  match r with
  | .d (.bl b) => pure b
  | _ => M.bad) : M Bool) ρ := (rfl)
@[simp ↓] theorem x_e3 (p p' : Dv → Dv → M RV) (ma mb mc : M AV) (ρ : VE) : e3 p p' ma mb mc ρ = ((do
  let x ← ma
  let y ← mb
  let d ← con x
  let e ← con y
  let k ← toB (p d e)
  if k = true then do
    let w ← mc
    let e ← con y
    let f ← con w
    p' e f
  else pure (.d (.bl false))) : M RV) ρ := (rfl)
@[simp ↓] theorem x_b1 (p : Dv → M RV) (ma : M AV) (ρ : VE) : b1 p ma ρ = ((do
  let x ← ma
  let d ← con x
  p d) : M RV) ρ := (rfl)
@[simp ↓] theorem x_tru_0  (ρ : VE) : tru  (.non) ρ = (( pure false) : M Bool) ρ := by first | exact (rfl) | simp only [tru]
@[simp ↓] theorem x_tru_1  (ρ : VE) : tru  (.bl b) ρ = (( pure b) : M Bool) ρ := by first | exact (rfl) | simp only [tru]
@[simp ↓] theorem x_tru_2  (ρ : VE) : tru  (.int i) ρ = (( pure (i != 0)) : M Bool) ρ := by first | exact (rfl) | simp only [tru]
@[simp ↓] theorem x_tru_3  (ρ : VE) : tru  (.str x) ρ = (( do M.grd (x.length ≤ sizeLine); pure ((x.length : Int) != 0)) : M Bool) ρ := by first | exact (rfl) | simp only [tru]
@[simp ↓] theorem x_tru_4  (ρ : VE) : tru  (.lst xs) ρ = (( pure (!xs.isEmpty)) : M Bool) ρ := by first | exact (rfl) | simp only [tru]
@[simp ↓] theorem x_tru_5  (ρ : VE) : tru  (.rls xs) ρ = (( pure (!xs.isEmpty)) : M Bool) ρ := by first | exact (rfl) | simp only [tru]
@[simp ↓] theorem x_tru_6  (ρ : VE) : tru  (.tup xs) ρ = (( pure (!xs.isEmpty)) : M Bool) ρ := by first | exact (rfl) | simp only [tru]
@[simp ↓] theorem x_tru_7  (ρ : VE) : tru  (.dct kvs) ρ = (( pure (!kvs.isEmpty)) : M Bool) ρ := by first | exact (rfl) | simp only [tru]
@[simp ↓] theorem x_eT (ma : M AV) (ρ : VE) : eT ma ρ = ((do
  let x ← ma
  let d ← con x
  tru d) : M Bool) ρ := (rfl)
@[simp ↓] theorem x_tNt (m : M Bool) (ρ : VE) : tNt m ρ = ((do
  let b ← m
  pure (!b)) : M Bool) ρ := (rfl)
@[simp ↓] theorem x_tAn (m n : M Bool) (ρ : VE) : tAn m n ρ = ((do
  let b ← m
  if b = true then n else pure false) : M Bool) ρ := (rfl)
@[simp ↓] theorem x_tO (m n : M Bool) (ρ : VE) : tO m n ρ = ((do
  let b ← m
  if b = true then pure true else n) : M Bool) ρ := (rfl)
@[simp ↓] theorem x_eAn (m n : M RV) (ρ : VE) : eAn m n ρ = ((do
  let b ← toB m
  if b = true then n else pure (.d (.bl false))) : M RV) ρ := (rfl)
@[simp ↓] theorem x_eO (m n : M RV) (ρ : VE) : eO m n ρ = ((do
  let b ← toB m
  if b = true then pure (.d (.bl true)) else n) : M RV) ρ := (rfl)
@[simp ↓] theorem x_eNt (m : M RV) (ρ : VE) : eNt m ρ = ((do
  let b ← toB m
  pure (.d (.bl (!b)))) : M RV) ρ := (rfl)
@[simp ↓] theorem x_eIf (c : M Bool) (m n : M RV) (ρ : VE) : eIf c m n ρ = ((do
  let b ← c
  if b = true then m else n) : M RV) ρ := (rfl)
@[simp ↓] theorem x_aN  (ρ : VE) : aN  ρ = ((pure []) : M (List AV)) ρ := (rfl)
@[simp ↓] theorem x_aC (m : M AV) (r : M (List AV)) (ρ : VE) : aC m r ρ = ((do
  let x ← m
  let xs ← r
  pure (x :: xs)) : M (List AV)) ρ := (rfl)
@[simp ↓] theorem x_conL_0  (ρ : VE) : conL  ([]) ρ = (( pure []) : M (List Dv)) ρ := by first | exact (rfl) | simp only [conL]
@[simp ↓] theorem x_conL_1  (ρ : VE) : conL  (a :: as) ρ = (( do
    let d ← con a
    let ds ← conL as
    pure (d :: ds)) : M (List Dv)) ρ := by first | exact (rfl) | simp only [conL]
@[simp ↓] theorem x_aliL_0  (ρ : VE) : aliL  ([]) ρ = (( pure []) : M (List Dv)) ρ := by first | exact (rfl) | simp only [aliL]
@[simp ↓] theorem x_aliL_1  (ρ : VE) : aliL  (a :: as) ρ = (( do
    let d ← ali a
    let ds ← aliL as
    pure (d :: ds)) : M (List Dv)) ρ := by first | exact (rfl) | simp only [aliL]
@[simp ↓] theorem x_eLst (m : M (List AV)) (ρ : VE) : eLst m ρ = ((do
  let as ← m
  let ds ← aliL as
  M.grd (ds.length ≤ sizeLine)
  pure (.fr (.lst ds))) : M RV) ρ := (rfl)
@[simp ↓] theorem x_eTup (m : M (List AV)) (ρ : VE) : eTup m ρ = ((do
  let as ← m
  let ds ← aliL as
  M.grd (ds.length ≤ sizeLine)
  pure (.d (.tup ds))) : M RV) ρ := (rfl)
@[simp ↓] theorem x_eDct  (ρ : VE) : eDct  ρ = ((pure (.fr (.dct []))) : M RV) ρ := (rfl)
@[simp ↓] theorem x_oN  (ρ : VE) : oN  ρ = ((pure none) : M (Option AV)) ρ := (rfl)
@[simp ↓] theorem x_oS (m : M AV) (ρ : VE) : oS m ρ = ((do
  let a ← m
  pure (some a)) : M (Option AV)) ρ := (rfl)
@[simp ↓] theorem x_conI_0  (ρ : VE) : conI  (none) ρ = (( pure none) : M (Option Int)) ρ := by first | exact (rfl) | simp only [conI]
@[simp ↓] theorem x_conI_1  (ρ : VE) : conI  (some a) ρ = (( do
    let d ← con a
    match d with
    | .int i => pure (some i)
    | _ => M.bad) : M (Option Int)) ρ := by first | exact (rfl) | simp only [conI]
@[simp ↓] theorem x_oI (m : M AV) (ρ : VE) : oI m ρ = ((do
  let a ← m
  let d ← con a
  match d with
  | .int i => pure (some i)
  | _ => M.bad) : M (Option Int)) ρ := (rfl)
@[simp ↓] theorem x_oO  (ρ : VE) : oO  ρ = ((pure none) : M (Option Int)) ρ := (rfl)
@[simp ↓] theorem x_eSl (ma : M AV) (ml mh : M (Option Int)) (ρ : VE) : eSl ma ml mh ρ = ((do
  let x ← ma
  let lo ← ml
  let hi ← mh
  let d ← con x
  pSl d lo hi) : M RV) ρ := (rfl)
@[simp] theorem x_items_q_0  : items?  (.lst xs) = (( some xs) : Option (List Dv)) := by first | exact (rfl) | simp only [items?]
@[simp] theorem x_items_q_1  : items?  (.rls xs) = (( some xs) : Option (List Dv)) := by first | exact (rfl) | simp only [items?]
@[simp] theorem x_items_q_2  : items?  (.tup xs) = (( some xs) : Option (List Dv)) := by first | exact (rfl) | simp only [items?]
@[simp ↓] theorem x_pAdd_0  (ρ : VE) : pAdd  (.int i) (.int j) ρ = (( pure (.d (.int (i + j)))) : M RV) ρ := by first | exact (rfl) | simp only [pAdd]
@[simp ↓] theorem x_pAdd_1  (ρ : VE) : pAdd  (.lst xs) (.lst ys) ρ = (( do
    M.grd (xs.length + ys.length ≤ sizeLine)
    pure (.fr (.lst (xs ++ ys)))) : M RV) ρ := by first | exact (rfl) | simp only [pAdd]
@[simp ↓] theorem x_pAdd_2  (ρ : VE) : pAdd  (.str x) (.str y) ρ = (( do
    M.grd (x.length + y.length ≤ sizeLine)
    pure (.d (.str (x ++ y)))) : M RV) ρ := by first | exact (rfl) | simp only [pAdd]
@[simp ↓] theorem x_pAdd_3  (ρ : VE) : pAdd  (.tup xs) (.tup ys) ρ = (( do
    M.grd (xs ≠ [] ∧ ys ≠ [] ∧ xs.length + ys.length ≤ sizeLine)
    pure (.d (.tup (xs ++ ys)))) : M RV) ρ := by first | exact (rfl) | simp only [pAdd]
@[simp ↓] theorem x_pSub_0  (ρ : VE) : pSub  (.int i) (.int j) ρ = (( pure (.d (.int (i - j)))) : M RV) ρ := by first | exact (rfl) | simp only [pSub]
@[simp ↓] theorem x_pMul_0  (ρ : VE) : pMul  (.int i) (.int j) ρ = (( do
    M.grd (CMulW i j)
    pure (.d (.int (i * j)))) : M RV) ρ := by first | exact (rfl) | simp only [pMul]
@[simp ↓] theorem x_pMul_1  (ρ : VE) : pMul  (.lst xs) (.int k) ρ = (( do
    M.grd (-(2 ^ 63) ≤ k ∧ k < 2 ^ 63 ∧ xs.length * k.toNat ≤ sizeLine)
    pure (.fr (.lst (List.replicate k.toNat xs).flatten))) : M RV) ρ := by first | exact (rfl) | simp only [pMul]
@[simp ↓] theorem x_pDiv_0  (ρ : VE) : pDiv  (.int i) (.int j) ρ = (( do
    M.grd (CDivW i j)
    pure (.d (.int (i / j)))) : M RV) ρ := by first | exact (rfl) | simp only [pDiv]
@[simp ↓] theorem x_pMod_0  (ρ : VE) : pMod  (.int i) (.int j) ρ = (( do
    M.grd (0 < j)
    pure (.d (.int (i % j)))) : M RV) ρ := by first | exact (rfl) | simp only [pMod]
@[simp ↓] theorem x_pPow_0  (ρ : VE) : pPow  (.int i) (.int j) ρ = (( do
    M.grd (CPow i j)
    pure (.d (.int (i ^ j.toNat)))) : M RV) ρ := by first | exact (rfl) | simp only [pPow]
@[simp ↓] theorem x_pOrd_0 (f : Int → Int → Bool) (ρ : VE) : pOrd f (.int i) (.int j) ρ = (( pure (.d (.bl (f i j)))) : M RV) ρ := by first | exact (rfl) | simp only [pOrd]
@[simp ↓] theorem x_pEqB_0  (ρ : VE) : pEqB  (.int i) (.int j) ρ = (( pure (decide (i = j))) : M Bool) ρ := by first | exact (rfl) | simp only [pEqB]
@[simp ↓] theorem x_pEqB_1  (ρ : VE) : pEqB  (.str i) (.str j) ρ = (( pure (decide (i = j))) : M Bool) ρ := by first | exact (rfl) | simp only [pEqB]
@[simp ↓] theorem x_pEqB_2  (ρ : VE) : pEqB  (.bl i) (.bl j) ρ = (( pure (decide (i = j))) : M Bool) ρ := by first | exact (rfl) | simp only [pEqB]
@[simp ↓] theorem x_pEq (d e : Dv) (ρ : VE) : pEq d e ρ = ((do
  let b ← pEqB d e
  pure (.d (.bl b))) : M RV) ρ := (rfl)
@[simp ↓] theorem x_pNe (d e : Dv) (ρ : VE) : pNe d e ρ = ((do
  let b ← pEqB d e
  pure (.d (.bl (!b)))) : M RV) ρ := (rfl)
@[simp] theorem x_key_q_0  : key?  (.int i) = (( some (.inl i)) : Option Key) := by first | exact (rfl) | simp only [key?]
@[simp] theorem x_key_q_1  : key?  (.str x) = (( some (.inr x)) : Option Key) := by first | exact (rfl) | simp only [key?]
@[simp ↓] theorem x_pIn (n : Bool) (d e : Dv) (ρ : VE) : pIn n d e ρ = ((do
  let b ← pInB d e
  pure (.d (.bl (if n then !b else b)))) : M RV) ρ := (rfl)
@[simp ↓] theorem x_pDx_0  (ρ : VE) : pDx  (.dct kvs) (x) ρ = (( do
    let k ← M.opt (key? x)
    let v ← M.opt (valD kvs k)
    pure (.d v)) : M RV) ρ := by first | exact (rfl) | simp only [pDx]
@[simp ↓] theorem x_eB (q : List Dv → M RV) (ma : M (List AV)) (ρ : VE) : eB q ma ρ = ((do
  let as ← ma
  let ds ← conL as
  q ds) : M RV) ρ := (rfl)
@[simp ↓] theorem x_qAbs_0  (ρ : VE) : qAbs  ([.int i]) ρ = (( pure (.d (.int (if i < 0 then -i else i)))) : M RV) ρ := by first | exact (rfl) | simp only [qAbs]
@[simp ↓] theorem x_qInt_0  (ρ : VE) : qInt  ([.int i]) ρ = (( pure (.d (.int i))) : M RV) ρ := by first | exact (rfl) | simp only [qInt]
@[simp ↓] theorem x_qInt_1  (ρ : VE) : qInt  ([.bl k]) ρ = (( pure (.d (.int (if k then 1 else 0)))) : M RV) ρ := by first | exact (rfl) | simp only [qInt]
@[simp] theorem x_ints_q_0  : ints?  ([]) = (( some []) : Option (List Int)) := by first | exact (rfl) | simp only [ints?]
@[simp] theorem x_ints_q_1  : ints?  (.int i :: ds) = (( (ints? ds).map (i :: ·)) : Option (List Int)) := by first | exact (rfl) | simp only [ints?]
@[simp ↓] theorem x_qSum_0  (ρ : VE) : qSum  ([.lst xs]) ρ = (( do
    let ns ← M.opt (ints? xs)
    pure (.d (.int ns.sum))) : M RV) ρ := by first | exact (rfl) | simp only [qSum]
@[simp ↓] theorem x_qSum_1  (ρ : VE) : qSum  ([.rls xs]) ρ = (( do
    let ns ← M.opt (ints? xs)
    pure (.d (.int ns.sum))) : M RV) ρ := by first | exact (rfl) | simp only [qSum]
@[simp ↓] theorem x_qList_0  (ρ : VE) : qList  ([d]) ρ = (( do
    let xs ← M.opt (items? d)
    pure (.fr (.lst xs))) : M RV) ρ := by first | exact (rfl) | simp only [qList]
@[simp ↓] theorem x_qTuple_0  (ρ : VE) : qTuple  ([.tup xs]) ρ = (( pure (.d (.tup xs))) : M RV) ρ := by first | exact (rfl) | simp only [qTuple]
@[simp ↓] theorem x_qTuple_1  (ρ : VE) : qTuple  ([.lst xs]) ρ = (( pure (.d (.tup xs))) : M RV) ρ := by first | exact (rfl) | simp only [qTuple]
@[simp ↓] theorem x_qTuple_2  (ρ : VE) : qTuple  ([.rls xs]) ρ = (( pure (.d (.tup xs))) : M RV) ρ := by first | exact (rfl) | simp only [qTuple]
@[simp ↓] theorem x_qRepr_0  (ρ : VE) : qRepr  ([d]) ρ = (( do
    M.grd (okRepr d = true)
    pure (.d (.str (toPy d).shown))) : M RV) ρ := by first | exact (rfl) | simp only [qRepr]
@[simp ↓] theorem x_getMu (i : Nat) (ρ : VE) : getMu i ρ = ( match ρ[i]? with
  | some (.mu _ d) => .ok d ρ
  | _ => .bad) := (rfl)
@[simp ↓] theorem x_putMu (i : Nat) (d : Dv) (ρ : VE) : putMu i d ρ = ( match ρ[i]? with
  | some (.mu b _) => .ok () (ρ.set i (.mu b d))
  | _ => .bad) := (rfl)
@[simp] theorem x_lst_q_0  : lst?  (.lst xs) = (( some xs) : Option (List Dv)) := by first | exact (rfl) | simp only [lst?]
@[simp] theorem x_dct_q_0  : dct?  (.dct xs) = (( some xs) : Option (List (Key × Dv))) := by first | exact (rfl) | simp only [dct?]
@[simp ↓] theorem x_getL (i : Nat) (ρ : VE) : getL i ρ = ((do
  let l ← getMu i
  M.opt (lst? l)) : M (List Dv)) ρ := (rfl)
@[simp ↓] theorem x_getD_p (i : Nat) (ρ : VE) : getD' i ρ = ((do
  let l ← getMu i
  M.opt (dct? l)) : M (List (Key × Dv))) ρ := (rfl)
@[simp ↓] theorem x_mApp (i : Nat) (m : M AV) (ρ : VE) : mApp i m ρ = ((do
  let _ ← getL i
  let a ← m
  let d ← ali a
  let xs ← getL i
  M.grd (xs.length < sizeLine)
  putMu i (.lst (xs ++ [d]))
  pure (.d .non)) : M RV) ρ := (rfl)
@[simp ↓] theorem x_mPop (i : Nat) (ρ : VE) : mPop i ρ = ((do
  let xs ← getL i
  let d ← M.opt xs[xs.length - 1]?
  putMu i (.lst xs.dropLast)
  pure (.d d)) : M RV) ρ := (rfl)
@[simp] theorem x_int_q_0  : int?  (.int i) = (( some i) : Option Int) := by first | exact (rfl) | simp only [int?]
@[simp ↓] theorem x_mPopAt (i : Nat) (m : M AV) (ρ : VE) : mPopAt i m ρ = ((do
  let _ ← getL i
  let a ← m
  let k ← con a
  let j ← M.opt (int? k)
  let xs ← getL i
  M.grd (-(2 ^ 63) ≤ j ∧ j < 2 ^ 63)
  let n ← M.opt (seqIndex? j xs.length)
  let d ← M.opt xs[n]?
  putMu i (.lst (xs.eraseIdx n))
  pure (.d d)) : M RV) ρ := (rfl)
@[simp ↓] theorem x_mGet2 (ma mb mc : M AV) (ρ : VE) : mGet2 ma mb mc ρ = ((do
  let x ← ma
  let d0 ← con x
  let _ ← M.opt (dct? d0)
  let y ← mb
  let w ← mc
  let d ← con x
  let kvs ← M.opt (dct? d)
  let ky ← con y
  let k ← M.opt (key? ky)
  let dv ← ali w
  pure (.d ((valD kvs k).getD dv))) : M RV) ρ := (rfl)
@[simp ↓] theorem x_mIndex (ma mb : M AV) (ρ : VE) : mIndex ma mb ρ = ((do
  let x ← ma
  let d0 ← con x
  let _ ← M.opt (lst? d0)
  let y ← mb
  let d ← con x
  let xs ← M.opt (lst? d)
  let k ← con y
  M.grd (flatD k = true ∧ xs.all flatD = true)
  let j ← M.opt (idxD xs k)
  pure (.d (.int j))) : M RV) ρ := (rfl)
@[simp ↓] theorem x_kCall (r : R RV) (ρ : VE) : kCall r ρ = ( match r with
  | .ok rv _ => .ok rv ρ
  | .exc er _ => .exc er ρ
  | .bad => .bad) := (rfl)
@[simp ↓] theorem x_eCall (n : Nat) (φ : List Sl → R RV) (ma : M (List AV)) (ρ : VE) : eCall n φ ma ρ = ((do
  let as ← ma
  let ds ← aliL as
  M.grd (ds.length = n)
  kCall (φ (ds.map Sl.val))) : M RV) ρ := (rfl)
@[simp ↓] theorem x_kCallI (i : Nat) (r : R RV) (ρ : VE) : kCallI i r ρ = ( match r with
  | .ok rv ρ' => match (ρ'[0]? : Option Sl) with
    | some (Sl.mu true d) => match putMu i d ρ with
      | .ok _ ρ2 => .ok rv ρ2
      | _ => .bad
    | _ => .bad
  | .exc er ρ' => match (ρ'[0]? : Option Sl) with
    | some (Sl.mu true d) => match putMu i d ρ with
      | .ok _ ρ2 => .exc er ρ2
      | _ => .bad
    | _ => .bad
  | .bad => .bad) := (rfl)
@[simp ↓] theorem x_eCallI (i n : Nat) (φ : List Sl → R RV) (ma : M (List AV)) (ρ : VE) : eCallI i n φ ma ρ = ((do
  let _ ← getMu i
  let as ← ma
  let ds ← aliL as
  M.grd (ds.length = n)
  let d0 ← getMu i
  kCallI i (φ (Sl.mu true d0 :: ds.map Sl.val))) : M RV) ρ := (rfl)
@[simp ↓] theorem x_gN_0  (ρ : VE) : gN  ([]) ρ = (( pure ()) : M Unit) ρ := by first | exact (rfl) | simp only [gN]
@[simp ↓] theorem x_gN_1  (ρ : VE) : gN  (w1 :: w2) ρ = (( M.bad) : M Unit) ρ := by first | exact (rfl) | simp only [gN]
@[simp ↓] theorem x_gC_0 (mg : Dv → M Unit) (mgs : List Dv → M Unit) (ρ : VE) : gC mg mgs ([]) ρ = (( M.bad) : M Unit) ρ := by first | exact (rfl) | simp only [gC]
@[simp ↓] theorem x_gC_1 (mg : Dv → M Unit) (mgs : List Dv → M Unit) (ρ : VE) : gC mg mgs (d :: ds) ρ = (( do
    mg d
    mgs ds) : M Unit) ρ := by first | exact (rfl) | simp only [gC]
@[simp] theorem x_tup_q_0  : tup?  (.tup xs) = (( some xs) : Option (List Dv)) := by first | exact (rfl) | simp only [tup?]
@[simp ↓] theorem x_gT (n : Nat) (mgs : List Dv → M Unit) (d : Dv) (ρ : VE) : gT n mgs d ρ = ((do
  let xs ← M.opt (tup? d)
  M.grd (xs.length = n)
  mgs xs) : M Unit) ρ := (rfl)
@[simp ↓] theorem x_iSeq (ma : M AV) (ρ : VE) : iSeq ma ρ = ((do
  let a ← ma
  let d ← ali a
  M.opt (walk? d)) : M (List Dv)) ρ := (rfl)
@[simp ↓] theorem x_iEnumL (ma : M (List AV)) (ρ : VE) : iEnumL ma ρ = ((do
  let as ← ma
  let ds ← aliL as
  match ds with
  | [.lst xs] => pure (enumD xs)
  | [.rls xs] => pure (enumD xs)
  | _ => M.bad) : M (List Dv)) ρ := (rfl)
@[simp ↓] theorem x_iZipL (ma : M (List AV)) (ρ : VE) : iZipL ma ρ = ((do
  let as ← ma
  let ds ← aliL as
  match ds with
  | [.lst xs, .lst ys] => pure (zipD xs ys)
  | _ => M.bad) : M (List Dv)) ρ := (rfl)
@[simp ↓] theorem x_wipeM (vs : List Nat) (ρ : VE) : wipeM vs ρ = ( if vs.any (fun i => isIo (ρ[i]? : Option Sl)) = true then .bad else .ok () (wipeE ρ vs)) := (rfl)
theorem x_compL_0 (vs : List Nat) (mg : Dv → M Unit) (mt : M Bool) (me : M AV) (ρ : VE) : compL vs mg mt me ([]) (acc) ρ = (( do
    wipeM vs
    pure acc) : M (List Dv)) ρ := by first | exact (rfl) | simp only [compL]
theorem x_compL_1 (vs : List Nat) (mg : Dv → M Unit) (mt : M Bool) (me : M AV) (ρ : VE) : compL vs mg mt me (d :: ds) (acc) ρ = (( do
    wipeM vs
    mg d
    let b ← mt
    if b = true then do
      let a ← me
      let y ← ali a
      M.grd (acc.length < sizeLine)
      compL vs mg mt me ds (acc ++ [y])
    else compL vs mg mt me ds acc) : M (List Dv)) ρ := by first | exact (rfl) | simp only [compL]
@[simp ↓] theorem x_noX {α : Type} (m : M α) (ρ : VE) : noX m ρ = ( match m ρ with
  | .ok a ρ' => .ok a ρ'
  | .exc _ _ => .bad
  | .bad => .bad) := (rfl)
@[simp ↓] theorem x_eComp (vs : List Nat) (mi : M (List Dv)) (mg : Dv → M Unit) (mt : M Bool) (me : M AV) (ρ : VE) : eComp vs mi mg mt me ρ = ((do
  let ds ← mi
  let r ← noX (compL vs mg mt me ds [])
  pure (.fr (.lst r))) : M RV) ρ := (rfl)
@[simp ↓] theorem x_sNil  (ρ : VE) : sNil  ρ = ((pure .nx) : M Fl) ρ := (rfl)
@[simp ↓] theorem x_sSeq (m n : M Fl) (ρ : VE) : sSeq m n ρ = ((do
  let f ← m
  match f with
  | .nx => n
  | .bk => pure .bk
  | .ct => pure .ct
  | .rt r => pure (.rt r)) : M Fl) ρ := (rfl)
@[simp ↓] theorem x_sBreak  (ρ : VE) : sBreak  ρ = ((pure .bk) : M Fl) ρ := (rfl)
@[simp ↓] theorem x_sCont  (ρ : VE) : sCont  ρ = ((pure .ct) : M Fl) ρ := (rfl)
@[simp ↓] theorem x_sExpr (m : M RV) (ρ : VE) : sExpr m ρ = ((do
  let _ ← m
  pure .nx) : M Fl) ρ := (rfl)
@[simp ↓] theorem x_sRet (m : M RV) (ρ : VE) : sRet m ρ = ((do
  let r ← m
  pure (.rt r)) : M Fl) ρ := (rfl)
@[simp ↓] theorem x_sRetN  (ρ : VE) : sRetN  ρ = ((pure (.rt (.d .non))) : M Fl) ρ := (rfl)
@[simp ↓] theorem x_sIf (c : M Bool) (m n : M Fl) (ρ : VE) : sIf c m n ρ = ((do
  let b ← c
  if b = true then m else n) : M Fl) ρ := (rfl)
@[simp ↓] theorem x_putV_0 (i : Nat) (ρ : VE) : putV i (.d d) ρ = (( setS i d) : M Unit) ρ := by first | exact (rfl) | simp only [putV]
@[simp ↓] theorem x_putV_1 (i : Nat) (ρ : VE) : putV i (.fr d) ρ = (( setF i d) : M Unit) ρ := by first | exact (rfl) | simp only [putV]
@[simp ↓] theorem x_putV_2 (i : Nat) (ρ : VE) : putV i (.ow t) ρ = (( setO i t) : M Unit) ρ := by first | exact (rfl) | simp only [putV]
@[simp ↓] theorem x_putV_3 (i : Nat) (ρ : VE) : putV i (.bor j) ρ = (( do
    let d ← ali (.bor j)
    setS i d) : M Unit) ρ := by first | exact (rfl) | simp only [putV]
@[simp ↓] theorem x_sSet (i : Nat) (m : M RV) (ρ : VE) : sSet i m ρ = ((do
  let r ← m
  putV i r
  pure .nx) : M Fl) ρ := (rfl)
@[simp ↓] theorem x_sAsg (m : M AV) (mg : Dv → M Unit) (ρ : VE) : sAsg m mg ρ = ((do
  let a ← m
  let d ← ali a
  mg d
  pure .nx) : M Fl) ρ := (rfl)
@[simp ↓] theorem x_sSetIx (i : Nat) (mv mk : M AV) (ρ : VE) : sSetIx i mv mk ρ = ((do
  let v ← mv
  let _ ← getL i
  let k ← mk
  let d ← ali v
  let kd ← con k
  let j ← M.opt (int? kd)
  let xs ← getL i
  let n ← M.opt (ixN xs.length j)
  putMu i (.lst (xs.set n d))
  pure .nx) : M Fl) ρ := (rfl)
@[simp ↓] theorem x_sPut (i : Nat) (mv mk : M AV) (ρ : VE) : sPut i mv mk ρ = ((do
  let v ← mv
  let _ ← getD' i
  let k ← mk
  let d ← ali v
  let kd ← con k
  let key ← M.opt (key? kd)
  let kvs ← getD' i
  M.grd (kvs.length < sizeLine)
  putMu i (.dct (putD kvs key d))
  pure .nx) : M Fl) ρ := (rfl)
@[simp ↓] theorem x_slInt (i : Nat) (ρ : VE) : slInt i ρ = ( match (ρ[i]? : Option Sl) with
  | some (.val (.int x)) => .ok x ρ
  | _ => .bad) := (rfl)
@[simp ↓] theorem x_sAug (f : Int → Int → Int) (i : Nat) (m : M AV) (ρ : VE) : sAug f i m ρ = ((do
  let x ← slInt i
  let a ← m
  let d ← con a
  let j ← M.opt (int? d)
  setS i (.int (f x j))
  pure .nx) : M Fl) ρ := (rfl)
@[simp ↓] theorem x_forL_0 (mg : Dv → M Unit) (mb : M Fl) (ρ : VE) : forL mg mb ([]) ρ = (( pure .nx) : M Fl) ρ := by first | exact (rfl) | simp only [forL]
theorem x_forL_1 (mg : Dv → M Unit) (mb : M Fl) (ρ : VE) : forL mg mb (d :: ds) ρ = (( do
    mg d
    let f ← mb
    match f with
    | .nx => forL mg mb ds
    | .ct => forL mg mb ds
    | .bk => pure .nx
    | .rt r => pure (.rt r)) : M Fl) ρ := by first | exact (rfl) | simp only [forL]
@[simp ↓] theorem x_sFor (mi : M (List Dv)) (mg : Dv → M Unit) (mb : M Fl) (ρ : VE) : sFor mi mg mb ρ = ((do
  let ds ← mi
  forL mg mb ds) : M Fl) ρ := (rfl)
theorem x_whL_0 (mc : M Bool) (mb : M Fl) (ρ : VE) : whL mc mb (0) ρ = (( M.bad) : M Fl) ρ := by first | exact (rfl) | simp only [whL]
theorem x_whL_1 (mc : M Bool) (mb : M Fl) (ρ : VE) : whL mc mb (n + 1) ρ = (( do
    let b ← mc
    if b = true then do
      let f ← mb
      match f with
      | .nx => whL mc mb n
      | .ct => whL mc mb n
      | .bk => pure .nx
      | .rt r => pure (.rt r)
    else pure .nx) : M Fl) ρ := by first | exact (rfl) | simp only [whL]
@[simp ↓] theorem x_M_thr {α : Type} (er : Er) (ρ : VE) : (M.thr er : M α) ρ = .exc er ρ := (rfl)
@[simp ↓] theorem x_sRaise (name : Str) (ks : List Str) (ma : M (List AV)) (ρ : VE) : sRaise name ks ma ρ = ((do
  let as ← ma
  let ds ← aliL as
  M.grd (ds.length = ks.length)
  M.thr ⟨name, some (List.zip ks.reverse ds.reverse)⟩) : M Fl) ρ := (rfl)
@[simp ↓] theorem x_tryH_0 (isa : Str → Str → Option Bool) (ρ : VE) : tryH isa ([]) (er) ρ = (( M.thr er) : M Fl) ρ := by first | exact (rfl) | simp only [tryH]
@[simp ↓] theorem x_tryH_1 (isa : Str → Str → Option Bool) (ρ : VE) : tryH isa ((nm, oi, m) :: r) (er) ρ = (( do
    let b ← M.opt (isa er.name nm)
    if b = true then do
      bindX oi
      let f ← noX (m er)
      M.grd (okRt oi f = true)
      unbindX oi
      pure f
    else tryH isa r er) : M Fl) ρ := by first | exact (rfl) | simp only [tryH]
@[simp ↓] theorem x_noExn  (ρ : VE) : noExn  ρ = ( if ρ.any isExn = true then .bad else .ok () ρ) := (rfl)
@[simp ↓] theorem x_bindX_0  (ρ : VE) : bindX  (none) ρ = (( noExn) : M Unit) ρ := by first | exact (rfl) | simp only [bindX]
@[simp ↓] theorem x_bindX_1  (ρ : VE) : bindX  (some i) ρ = (( fun ρ => if ρ.any isExn = true ∨ isIo (ρ[i]? : Option Sl) = true ∨ ρ.length ≤ i then .bad else .ok () (ρ.set i .exn)) : M Unit) ρ := by first | exact (rfl) | simp only [bindX]
@[simp ↓] theorem x_unbindX_0  (ρ : VE) : unbindX  (none) ρ = (( noExn) : M Unit) ρ := by first | exact (rfl) | simp only [unbindX]
@[simp ↓] theorem x_unbindX_1  (ρ : VE) : unbindX  (some i) ρ = (( fun ρ => if (ρ.set i .no).any isExn = true ∨ isIo (ρ[i]? : Option Sl) = true then .bad else .ok () (ρ.set i .no)) : M Unit) ρ := by first | exact (rfl) | simp only [unbindX]
@[simp] theorem x_okRt_0  : okRt  (some i) (.rt (.bor j)) = (( decide (i ≠ j)) : Bool) := by first | exact (rfl) | simp only [okRt]
@[simp ↓] theorem x_eXf (cls : List Str) (flds : List (Str × Str)) (er : Er) (i : Nat) (n : Str) (ρ : VE) : eXf cls flds er i n ρ = ( match (ρ[i]? : Option Sl) with
  | some .exn => match er.fs with
    | some fs => match fs.lookup n with
      | some d => if er.name ∈ cls ∧ (er.name, n) ∈ flds then .ok (.d d) ρ else .bad
      | none => .bad
    | none => .bad
  | _ => .bad) := (rfl)
@[simp ↓] theorem x_eIsL (cl : List Str) (prs : List (Str × Str × Bool)) (er : Er) (i : Nat) (ns : List Str) (ρ : VE) : eIsL cl prs er i ns ρ = ( match (ρ[i]? : Option Sl) with
  | some .exn => match isaL cl prs er.name ns with
    | some b => if er.name ∈ cl then .ok (.d (.bl b)) ρ else .bad
    | none => .bad
  | _ => .bad) := (rfl)
@[simp] theorem x_isaL_0 (cl : List Str) (prs : List (Str × Str × Bool)) (n : Str) : isaL cl prs n ([]) = (( some false) : Option Bool) := by first | exact (rfl) | simp only [isaL]
@[simp] theorem x_isaL_1 (cl : List Str) (prs : List (Str × Str × Bool)) (n : Str) : isaL cl prs n (m :: ms) = (( match isaT cl prs n m with
    | some true => some true
    | some false => isaL cl prs n ms
    | none => none) : Option Bool) := by first | exact (rfl) | simp only [isaL]
@[simp ↓] theorem x_iZip2 (ma : M (List AV)) (ρ : VE) : iZip2 ma ρ = ((do
  let as ← ma
  let ds ← aliL as
  match ds with
  | [a, b] => do
    let xs ← M.opt (walk? a)
    let ys ← M.opt (walk? b)
    pure (zipD xs ys)
  | _ => M.bad) : M (List Dv)) ρ := (rfl)
@[simp ↓] theorem x_iEnum1 (ma : M (List AV)) (ρ : VE) : iEnum1 ma ρ = ((do
  let as ← ma
  let ds ← aliL as
  match ds with
  | [a] => do
    let xs ← M.opt (walk? a)
    pure (enumD xs)
  | _ => M.bad) : M (List Dv)) ρ := (rfl)
@[simp] theorem x_otOf_0  : otOf  (.lst xs) = (( some (.lst (fzs xs))) : Option Ot) := by first | exact (rfl) | simp only [otOf]
@[simp] theorem x_otOf_1  : otOf  (.dct kvs) = (( some (.dct (fzk kvs))) : Option Ot) := by first | exact (rfl) | simp only [otOf]
@[simp ↓] theorem x_mvA (a : AV) (ρ : VE) : mvA a ρ = ( match a with
  | .d d => .ok (.fz d) ρ
  | .bor i => match ρ[i]? with
    | some (.mu false d) => match otOf d with
      | some t => .ok t (ρ.set i .no)
      | none => .bad
    | some (.ot t) => .ok t (ρ.set i .no)
    | some (.val d) => .ok (.fz d) ρ
    | _ => .bad) := (rfl)
@[simp ↓] theorem x_mvL_0  (ρ : VE) : mvL  ([]) ρ = (( pure []) : M (List Ot)) ρ := by first | exact (rfl) | simp only [mvL]
@[simp ↓] theorem x_mvL_1  (ρ : VE) : mvL  (a :: r) ρ = (( do
    let t ← mvA a
    let ts ← mvL r
    pure (t :: ts)) : M (List Ot)) ρ := by first | exact (rfl) | simp only [mvL]
@[simp ↓] theorem x_eLstO (m : M (List AV)) (ρ : VE) : eLstO m ρ = ((do
  let as ← m
  let ts ← mvL as
  M.grd (ts.length ≤ sizeLine)
  pure (.ow (.lst ts))) : M RV) ρ := (rfl)
@[simp ↓] theorem x_eTupO (m : M (List AV)) (ρ : VE) : eTupO m ρ = ((do
  let as ← m
  let ts ← mvL as
  M.grd (ts.length ≤ sizeLine)
  pure (.ow (.tup ts))) : M RV) ρ := (rfl)
@[simp] theorem x_flatRV_0  : flatRV  (.d d) = (( flatD d) : Bool) := by first | exact (rfl) | simp only [flatRV]
@[simp] theorem x_subT_0  : subT  (t) ([]) = (( some t) : Option Ot) := by first | exact (rfl) | simp only [subT]
@[simp] theorem x_subT_1  : subT  (.lst ts) (k :: π) = (( (atI ts k).bind fun t => subT t π) : Option Ot) := by first | exact (rfl) | simp only [subT]
@[simp] theorem x_subT_2  : subT  (.tup ts) (k :: π) = (( (atI ts k).bind fun t => subT t π) : Option Ot) := by first | exact (rfl) | simp only [subT]
@[simp] theorem x_putT_0  : putT  (w1) ([]) (u) = (( u) : Ot) := by first | exact (rfl) | simp only [putT]
@[simp] theorem x_putT_1  : putT  (.lst ts) (k :: π) (u) = (( match ixN ts.length k with
    | some j => .lst (ts.set j (putT ((ts[j]?).getD (.lst [])) π u))
    | none => .lst ts) : Ot) := by first | exact (rfl) | simp only [putT]
@[simp] theorem x_putT_2  : putT  (.tup ts) (k :: π) (u) = (( match ixN ts.length k with
    | some j => .tup (ts.set j (putT ((ts[j]?).getD (.lst [])) π u))
    | none => .tup ts) : Ot) := by first | exact (rfl) | simp only [putT]
@[simp ↓] theorem x_getO (i : Nat) (ρ : VE) : getO i ρ = ( match (ρ[i]? : Option Sl) with
  | some (.ot t) => .ok t ρ
  | some (.mu false d) => match otOf d with
    | some t => .ok t (ρ.set i (.ot t))
    | none => .bad
  | _ => .bad) := (rfl)
@[simp] theorem x_lstT_q_0  : lstT?  (.lst ts) = (( some ts) : Option (List Ot)) := by first | exact (rfl) | simp only [lstT?]
@[simp ↓] theorem x_M_ask {α : Type} (p : VE → Option α) (ρ : VE) : M.ask p ρ = ( match p ρ with
  | some a => .ok a ρ
  | none => .bad) := (rfl)
@[simp ↓] theorem x_setR (i : Nat) (s : Sl) (ρ : VE) : setR i s ρ = ( .ok () (ρ.set i s)) := (rfl)
@[simp ↓] theorem x_isMuIo (i : Nat) (ρ : VE) : isMuIo i ρ = ( if isIo (ρ[i]? : Option Sl) = true then .bad else .ok () ρ) := (rfl)
@[simp ↓] theorem x_mAppP (i : Nat) (p : VE → Option (List Int)) (m : M AV) (ρ : VE) : mAppP i p m ρ = ((do
  let t ← getO i
  let π ← M.ask p
  let xs ← M.opt ((subT t π).bind lstT?)
  setR i .no
  let av ← m
  let d ← ali av
  isMuIo i
  M.grd (xs.length < sizeLine)
  setR i (.ot (putT t π (.lst (xs ++ [.fz d]))))
  pure (.d .non)) : M RV) ρ := (rfl)
@[simp ↓] theorem x_pNeg_0  (ρ : VE) : pNeg  (.int i) ρ = (( pure (.d (.int (-i)))) : M RV) ρ := by first | exact (rfl) | simp only [pNeg]
@[simp] theorem x_fz_0  : fz  (.d d) = (( .d d) : AV) := by first | exact (rfl) | simp only [fz]
@[simp] theorem x_fz_1  : fz  (.fr d) = (( .d d) : AV) := by first | exact (rfl) | simp only [fz]
@[simp] theorem x_fz_2  : fz  (.bor i) = (( .bor i) : AV) := by first | exact (rfl) | simp only [fz]
@[simp] theorem x_fz_3  : fz  (.ow t) = (( .d t.er) : AV) := by first | exact (rfl) | simp only [fz]
@[simp] theorem x_isIo_0  : isIo  (some (.mu true w1)) = (( true) : Bool) := by first | exact (rfl) | simp only [isIo]

@[simp ↓] theorem x_pIx_lst (xs : List Dv) (i : Int) (ρ : VE) : pIx (.lst xs) (.int i) ρ = bR (M.opt (atI xs i) ρ) fun v => pure (.d v) := by simp [pIx, items?]
@[simp ↓] theorem x_pIx_rls (xs : List Dv) (i : Int) (ρ : VE) : pIx (.rls xs) (.int i) ρ = bR (M.opt (atI xs i) ρ) fun v => pure (.d v) := by simp [pIx, items?]
@[simp ↓] theorem x_pIx_tup (xs : List Dv) (i : Int) (ρ : VE) : pIx (.tup xs) (.int i) ρ = bR (M.opt (atI xs i) ρ) fun v => pure (.d v) := by simp [pIx, items?]
@[simp ↓] theorem x_pInB_dct (x : Dv) (kvs : List (Key × Dv)) (ρ : VE) : pInB x (.dct kvs) ρ = bR (M.opt (key? x) ρ) fun k => pure (valD kvs k).isSome := by simp [pInB]
@[simp ↓] theorem x_qLen_lst (xs : List Dv) (ρ : VE) : qLen [.lst xs] ρ = .ok (.d (.int xs.length)) ρ := by simp [qLen, items?]
@[simp ↓] theorem x_qLen_rls (xs : List Dv) (ρ : VE) : qLen [.rls xs] ρ = .ok (.d (.int xs.length)) ρ := by simp [qLen, items?]
@[simp ↓] theorem x_qLen_tup (xs : List Dv) (ρ : VE) : qLen [.tup xs] ρ = .ok (.d (.int xs.length)) ρ := by simp [qLen, items?]
@[simp ↓] theorem x_qMin2 (i j : Int) (ρ : VE) : qMin [.int i, .int j] ρ = .ok (.d (.int (if j < i then j else i))) ρ := by simp [qMin]
@[simp ↓] theorem x_qMax2 (i j : Int) (ρ : VE) : qMax [.int i, .int j] ρ = .ok (.d (.int (if j > i then j else i))) ρ := by simp [qMax]
@[simp ↓] theorem x_pSl_lst (xs : List Dv) (lo hi : Option Int) (ρ : VE) : pSl (.lst xs) lo hi ρ = .ok (.fr (.lst (cut xs lo hi))) ρ := (rfl)
@[simp ↓] theorem x_pSl_rls (xs : List Dv) (lo hi : Option Int) (ρ : VE) : pSl (.rls xs) lo hi ρ = .ok (.fr (.lst (cut xs lo hi))) ρ := (rfl)
theorem x_setSlot {ρ : VE} (i : Nat) (s : Sl) (ok bad : R Unit) : (match (ρ[i]? : Option Sl) with
  | some (Sl.mu true _) => bad
  | some _ => ok
  | none => bad) = if isIo (ρ[i]? : Option Sl) = true then bad else if i < ρ.length then ok else bad := by
  by_cases h : i < ρ.length
  · obtain ⟨s, e⟩ := get_ex h
    rw [e]
    cases s with
    | mu b d => cases b <;> simp [isIo, h]
    | _ => simp [isIo, h]
  · have e : (ρ[i]? : Option Sl) = none := List.getElem?_eq_none (by omega)
    rw [e]; simp [isIo, h]
@[simp ↓] theorem x_setS (i : Nat) (d : Dv) (ρ : VE) : setS i d ρ = if isIo (ρ[i]? : Option Sl) = true then .bad else if i < ρ.length then .ok () (ρ.set i (.val d)) else .bad := x_setSlot i (.val d) _ _
@[simp ↓] theorem x_setF (i : Nat) (d : Dv) (ρ : VE) : setF i d ρ = if isIo (ρ[i]? : Option Sl) = true then .bad else if i < ρ.length then .ok () (ρ.set i (.mu false d)) else .bad := x_setSlot i (.val d) _ _
@[simp ↓] theorem x_setO (i : Nat) (t : Ot) (ρ : VE) : setO i t ρ = if isIo (ρ[i]? : Option Sl) = true then .bad else if i < ρ.length then .ok () (ρ.set i (.ot t)) else .bad := x_setSlot i (.val (.int 0)) _ _
@[simp] theorem szle {n : Nat} (h : n ≤ 1000000) : n ≤ sizeLine := Nat.le_trans h (by decide)
@[simp] theorem szlt {n : Nat} (h : n ≤ 1000000) : n < sizeLine := Nat.lt_of_le_of_lt h (by decide)


@[simp ↓] theorem x_iRange1 (ma : M (List AV)) (ρ : VE) : iRange1 ma ρ = bR (ma ρ) fun as => conL as >>= fun ds => rg1 (ints? ds) := by
  rw [run_range1]
  cases ma ρ with
  | ok as ρ1 =>
    simp only [bR_ok]
    rw [run_bind]
    cases conL as ρ1 <;> rfl
  | exc e ρ1 => rfl
  | bad => rfl
@[simp ↓] theorem x_iRange2 (ma : M (List AV)) (ρ : VE) : iRange2 ma ρ = bR (ma ρ) fun as => conL as >>= fun ds => rg2 (ints? ds) := by
  rw [run_range2]
  cases ma ρ with
  | ok as ρ1 =>
    simp only [bR_ok]
    rw [run_bind]
    cases conL as ρ1 <;> rfl
  | exc e ρ1 => rfl
  | bad => rfl
instance {j : Int} : Decidable (R62 j) := by unfold R62; infer_instance
@[simp ↓] theorem x_rg1 (j : Int) (ρ : VE) : rg1 (some [j]) ρ = if R62 j then .ok (rng 0 j.toNat) ρ else .bad := by
  split
  · exact rg1_ok (by assumption) ρ
  · rename_i h
    show ((M.grd (-(2 ^ 62) ≤ j ∧ j < 2 ^ 62) >>= fun _ => (pure (rng 0 j.toNat) : M (List Dv))) ρ) = _
    rw [run_bind, run_grd, if_neg (show ¬ (-(2 ^ 62) ≤ j ∧ j < 2 ^ 62) from h)]
@[simp ↓] theorem x_rg2 (i j : Int) (ρ : VE) : rg2 (some [i, j]) ρ = if R62 i ∧ R62 j then .ok (rng i (j - i).toNat) ρ else .bad := by
  split
  · rename_i h; exact rg2_ok h.1 h.2 ρ
  · rename_i h
    show ((M.grd (-(2 ^ 62) ≤ i ∧ i < 2 ^ 62 ∧ -(2 ^ 62) ≤ j ∧ j < 2 ^ 62) >>= fun _ => (pure (rng i (j - i).toNat) : M (List Dv))) ρ) = _
    rw [run_bind, run_grd, if_neg fun ⟨a, b, c, d⟩ => h ⟨⟨a, b⟩, ⟨c, d⟩⟩]
@[simp] theorem R62_lit {j : Int} (h : -1000000 ≤ j) (h2 : j ≤ 1000000) : R62 j := r62 h h2
def rdK (m : M RV) (ρ : VE) (r : R RV) : R RV := match r with
  | .ok r _ => if flatRV r = true then .ok r ρ else m ρ
  | _ => m ρ
@[simp ↓] theorem x_rd (m : M RV) (ρ : VE) : rd m ρ = rdK m ρ (m (frzE ρ)) := (rfl)
@[simp] theorem rdK_bl {m : M RV} {ρ ρ' : VE} {b : Bool} : rdK m ρ (.ok (.d (.bl b)) ρ') = .ok (.d (.bl b)) ρ := (rfl)
@[simp] theorem rdK_int {m : M RV} {ρ ρ' : VE} {b : Int} : rdK m ρ (.ok (.d (.int b)) ρ') = .ok (.d (.int b)) ρ := (rfl)
@[simp] theorem frzE_nil : frzE [] = [] := (rfl)
@[simp] theorem frzE_no (ρ : VE) : frzE (.no :: ρ) = .no :: frzE ρ := (rfl)
@[simp] theorem frzE_val (d : Dv) (ρ : VE) : frzE (.val d :: ρ) = .val d :: frzE ρ := (rfl)
@[simp] theorem frzE_mu (b : Bool) (d : Dv) (ρ : VE) : frzE (.mu b d :: ρ) = .val d :: frzE ρ := (rfl)
@[simp] theorem frzE_ot (t : Ot) (ρ : VE) : frzE (.ot t :: ρ) = .val t.er :: frzE ρ := (rfl)
def trK (isa : Str → Str → Option Bool) (hs : List (Str × Option Nat × (Er → M Fl))) (r : R Fl) : R Fl := match r with
  | .ok f ρ' => .ok f ρ'
  | .exc er ρ' => tryH isa hs er ρ'
  | .bad => .bad
@[simp ↓] theorem x_sTry (isa : Str → Str → Option Bool) (hs : List (Str × Option Nat × (Er → M Fl))) (mb : M Fl) (ρ : VE) : sTry isa hs mb ρ = trK isa hs (mb ρ) := (rfl)
@[simp] theorem trK_ok {isa : Str → Str → Option Bool} {hs : List (Str × Option Nat × (Er → M Fl))} {f : Fl} {ρ : VE} : trK isa hs (.ok f ρ) = .ok f ρ := (rfl)
@[simp] theorem trK_exc {isa : Str → Str → Option Bool} {hs : List (Str × Option Nat × (Er → M Fl))} {e : Er} {ρ : VE} : trK isa hs (.exc e ρ) = tryH isa hs e ρ := (rfl)
@[simp] theorem er_fz (d : Dv) : (Ot.fz d).er = d := (rfl)
@[simp] theorem er_lst (l : List Ot) : (Ot.lst l).er = .lst (Ot.ers l) := (rfl)
@[simp] theorem er_tup (l : List Ot) : (Ot.tup l).er = .tup (Ot.ers l) := (rfl)
@[simp] theorem ers_nil : Ot.ers [] = [] := (rfl)
@[simp] theorem ers_cons (t : Ot) (r : List Ot) : Ot.ers (t :: r) = t.er :: Ot.ers r := (rfl)
@[simp] theorem ers_fzs (l : List Dv) : Ot.ers (fzs l) = l := by
  induction l with
  | nil => rfl
  | cons a l ih => show Ot.er (.fz a) :: Ot.ers (fzs l) = _; rw [ih]; rfl
/-- what a def does, told by its body -/
def fin (r : R Fl) : R RV := match r with
  | .ok (.rt (.bor i)) ρ => match ρ[i]? with
    | some (.mu false d) => .ok (.fr d) (ρ.set i .no)
    | some (.ot t) => .ok (.ow t) (ρ.set i .no)
    | some (.val d) => .ok (.d d) ρ
    | _ => .bad
  | .ok (.rt rv) ρ => .ok rv ρ
  | .ok .nx ρ => .ok (.d .non) ρ
  | .ok .bk _ => .bad
  | .ok .ct _ => .bad
  | .exc e ρ => .exc e ρ
  | .bad => .bad
theorem runB_fin (n : Nat) (b : M Fl) (sl : List Sl) : runB n b sl = fin (b (sl ++ List.replicate n Sl.no)) := rfl
@[simp ↓ high] theorem x_runB (n : Nat) (b : M Fl) (sl : List Sl) : runB n b sl = fin (b (sl ++ List.replicate n Sl.no)) := (rfl)
def finS (i : Nat) (ρ : VE) : Option Sl → R RV
  | some (.mu false d) => .ok (.fr d) (ρ.set i .no)
  | some (.ot t) => .ok (.ow t) (ρ.set i .no)
  | some (.val d) => .ok (.d d) ρ
  | _ => .bad
@[simp] theorem fin_bor (i : Nat) (ρ : VE) : fin (.ok (.rt (.bor i)) ρ) = finS i ρ ρ[i]? := by unfold fin finS; rfl
@[simp] theorem finS_mu (i : Nat) (ρ : VE) (d : Dv) : finS i ρ (some (.mu false d)) = .ok (.fr d) (ρ.set i .no) := (rfl)
@[simp] theorem finS_ot (i : Nat) (ρ : VE) (d : Ot) : finS i ρ (some (.ot d)) = .ok (.ow d) (ρ.set i .no) := (rfl)
@[simp] theorem finS_val (i : Nat) (ρ : VE) (d : Dv) : finS i ρ (some (.val d)) = .ok (.d d) ρ := (rfl)
@[simp] theorem fin_d (d : Dv) (ρ : VE) : fin (.ok (.rt (.d d)) ρ) = .ok (.d d) ρ := (rfl)
@[simp] theorem fin_fr (d : Dv) (ρ : VE) : fin (.ok (.rt (.fr d)) ρ) = .ok (.fr d) ρ := (rfl)
@[simp] theorem fin_ow (d : Ot) (ρ : VE) : fin (.ok (.rt (.ow d)) ρ) = .ok (.ow d) ρ := (rfl)
@[simp] theorem fin_nx (ρ : VE) : fin (.ok .nx ρ) = .ok (.d .non) ρ := (rfl)
@[simp] theorem fin_exc (e : Er) (ρ : VE) : fin (.exc e ρ) = .exc e ρ := (rfl)
@[simp] theorem fin_bad : fin .bad = .bad := (rfl)
/-! ### a data's text is short -/
mutual
theorem leaves_of : ∀ d : PyData, d.canLay0 = true → d.showable = true → d.leavesShort 2000 = true
  | .none, _, _ => rfl
  | .bool _, _, _ => rfl
  | .int i, _, h => by
    have h : i.natAbs.log2 < 1920 := by simpa [PyData.showable] using h
    have := int_text_length_le (a := i) (k := 1920) (by decide) h
    have e : (PyData.shown (.int i)).length = (toString i).length := PySem.ofString_length _
    simp only [PyData.leavesShort, decide_eq_true_eq, e]
    omega
  | .str x, h, _ => by
    have h : PyData.strOk x = true := by simpa [PyData.canLay0] using h
    simp only [PyData.leavesShort, List.all_eq_true, decide_eq_true_eq]
    intro c hc
    unfold PyData.strOk at h
    have := (Array.all_eq_true'.mp h) c (by simpa using hc)
    have := of_decide_eq_true this
    omega
  | .list xs, h, k => by
    simp only [PyData.leavesShort]
    exact leaves_all xs (by simpa [PyData.canLay0] using h) (by simpa [PyData.showable] using k)
  | .tuple xs, h, k => by
    simp only [PyData.leavesShort]
    exact leaves_all xs (by simpa [PyData.canLay0] using h) (by simpa [PyData.showable] using k)
  | .dict _, h, _ => by simp [PyData.canLay0] at h
theorem leaves_all : ∀ ds : List PyData, PyData.canLayAll0 ds = true → PyData.showableAll ds = true → PyData.leavesShortAll 2000 ds = true
  | [], _, _ => rfl
  | d :: ds, h, k => by
    have h' : d.canLay0 = true ∧ PyData.canLayAll0 ds = true := by simpa [PyData.canLayAll0] using h
    have k' : d.showable = true ∧ PyData.showableAll ds = true := by simpa [PyData.showableAll] using k
    rw [PyData.leavesShortAll, leaves_of d h'.1 k'.1, leaves_all ds h'.2 k'.2]; rfl
end
theorem okRepr_of {d : Dv} (h1 : isDt d = true) (h2 : dpD d ≤ 60) (h3 : (toPy d).showable = true) (h4 : (toPy d).bulk ≤ 8000) : okRepr d = true := by
  have h := PyData.shown_le_bulk 2000 (by decide) (toPy d) (leaves_of _ (canLay_toPy d h1) h3)
  have e : sizeLine = 16777216 := by decide
  have : (2000 + 2) * (toPy d).bulk ≤ 2002 * 8000 := Nat.mul_le_mul_left _ h4
  unfold okRepr
  rw [h1, h3, decide_eq_true h2, decide_eq_true (by omega)]; rfl
theorem eqable_of {d : Dv} (h1 : isDt d = true) (h2 : dpD d ≤ 60) : eqable d = true := by
  unfold eqable
  rw [h1, decide_eq_true h2]; rfl
theorem eqv_toPy {d : Dv} (h1 : isDt d = true) : PyData.eqv (toPy d) (toPy d) = true := PySem.SeqAt.eqv_refl _ (canLay_toPy d h1)
@[simp ↓] theorem x_pEqB_ll (a b : List Dv) (ρ : VE) : pEqB (.lst a) (.lst b) ρ = if eqable (.lst a) = true ∧ eqable (.lst b) = true then .ok (PyData.eqv (toPy (.lst a)) (toPy (.lst b))) ρ else .bad := by
  unfold pEqB
  simp only [run_bR, run_grd']
  split <;> rfl
@[simp] theorem isDts_iz (l : List Int) : isDts (iz l) = true := by
  induction l with
  | nil => rfl
  | cons a l ih => rw [iz_cons, isDts, ih]; rfl
@[simp] theorem dpDs_iz (l : List Int) : dpDs (iz l) = 0 := by
  induction l with
  | nil => rfl
  | cons a l ih => rw [iz_cons, dpDs, ih]; rfl
@[simp] theorem bulk_iz (l : List Int) : PyData.bulkAll (toPys (iz l)) = l.length := by
  induction l with
  | nil => rfl
  | cons a l ih => rw [iz_cons, toPys, PyData.bulkAll, ih, toPy, PyData.bulk, List.length_cons]; omega
theorem showable_iz {l : List Int} (h : ∀ z ∈ l, z.natAbs < 2 ^ 1900) : PyData.showableAll (toPys (iz l)) = true := by
  induction l with
  | nil => rfl
  | cons a l ih =>
    have : a.natAbs.log2 < 1920 := by
      have := h a List.mem_cons_self
      by_cases z : a.natAbs = 0
      · rw [z]; decide
      · exact Nat.lt_of_lt_of_le ((Nat.log2_lt z).mpr this) (by decide)
    rw [iz_cons, toPys, PyData.showableAll, ih fun z hz => h z (List.mem_cons_of_mem _ hz), toPy, PyData.showable, decide_eq_true this]; rfl
end P0
end
section
set_option Elab.async false
set_option linter.all false
set_option maxRecDepth 100000
set_option maxHeartbeats 4000000
/-! P0v: reckoning of the later combinators. -/
namespace P0
open PySem PySem.Spec L2
open PyProof.Rows hiding St
@[simp ↓] theorem x_pFld_0 (tbl : List (Addr × Str)) (f : Str) (ρ : VE) : pFld tbl f (.ins C fs) ρ = (( do
    M.grd ((C, f) ∈ tbl)
    let d ← M.opt (fs.lookup f)
    pure (.d d)) : M RV) ρ := by first | exact (rfl) | simp only [pFld]
@[simp ↓] theorem x_sFldS (tbl : List (Addr × Str)) (i : Nat) (f : Str) (m : M AV) (ρ : VE) : sFldS tbl i f m ρ = ((do
  let a ← m
  let d ← ali a
  let o ← getMu i
  match o with
  | .ins C fs => do
    M.grd ((C, f) ∈ tbl ∧ fs.length < 1000)
    putMu i (.ins C (putG f d fs))
    pure .nx
  | _ => M.bad) : M Fl) ρ := (rfl)
@[simp ↓] theorem x_eIsI (C : Addr) (ma : M AV) (ρ : VE) : eIsI C ma ρ = ((do
  let a ← ma
  let d ← con a
  match d with
  | .ins C' _ => do
    M.grd (C' = C)
    pure (.d (.bl true))
  | _ => M.bad) : M RV) ρ := (rfl)
@[simp ↓] theorem x_eMake (C : Addr) (n : Nat) (φ : List Sl → R RV) (ma : M (List AV)) (ρ : VE) : eMake C n φ ma ρ = ((do
  let as ← ma
  let ds ← aliL as
  M.grd (ds.length = n)
  kMake (φ (Sl.mu true (.ins C []) :: ds.map Sl.val))) : M RV) ρ := (rfl)
@[simp ↓] theorem x_qComb_0  (ρ : VE) : qComb  ([.int a, .int b]) ρ = (( do
    M.grd (0 ≤ a ∧ 0 ≤ b ∧ a ≤ 18000)
    pure (.d (.int (PySem.W.mcComb a b)))) : M RV) ρ := by first | exact (rfl) | simp only [qComb]
@[simp] theorem x_str_q_0  : str?  (.str x) = (( some x) : Option Str) := by first | exact (rfl) | simp only [str?]
@[simp ↓] theorem x_mS1 (p : Str → Dv → M RV) (ma mb : M AV) (ρ : VE) : mS1 p ma mb ρ = ((do
  let x ← ma
  let d0 ← con x
  let s ← M.opt (str? d0)
  let y ← mb
  let d ← con y
  p s d) : M RV) ρ := (rfl)
@[simp ↓] theorem x_pCount_0 (s : Str) (ρ : VE) : pCount s (.str t) ρ = (( pure (.d (.int (Txt.count s t)))) : M RV) ρ := by first | exact (rfl) | simp only [pCount]
@[simp] theorem x_strs_q_0  : strs?  ([]) = (( some []) : Option (List Str)) := by first | exact (rfl) | simp only [strs?]
@[simp] theorem x_strs_q_1  : strs?  (.str i :: ds) = (( (strs? ds).map (i :: ·)) : Option (List Str)) := by first | exact (rfl) | simp only [strs?]
@[simp ↓] theorem x_pJoin (s : Str) (d : Dv) (ρ : VE) : pJoin s d ρ = ((do
  let xs ← M.opt (items? d)
  let ys ← M.opt (strs? xs)
  M.grd ((ys.map (·.length)).sum + ys.length * s.length ≤ 16777216)
  pure (.d (.str (Txt.join s ys)))) : M RV) ρ := (rfl)
@[simp ↓] theorem x_pRepS_0  (ρ : VE) : pRepS  (.str s) (.int n) ρ = (( do
    M.grd (s.length ≤ 1000 ∧ -1000000 ≤ n ∧ n ≤ 10000)
    pure (.d (.str (Txt.mul s n)))) : M RV) ρ := by first | exact (rfl) | simp only [pRepS]
@[simp ↓] theorem x_pPowW_0  (ρ : VE) : pPowW  (.int i) (.int j) ρ = (( do
    M.grd (CPowW i j)
    pure (.d (.int (i ^ j.toNat)))) : M RV) ρ := by first | exact (rfl) | simp only [pPowW]
@[simp ↓] theorem x_pIsB_0 (n : Bool) (ρ : VE) : pIsB n (.bl i) (.bl j) ρ = (( pure (.d (.bl (if n then !(i == j) else i == j)))) : M RV) ρ := by first | exact (rfl) | simp only [pIsB]
@[simp ↓] theorem x_sAsg2 (m : M AV) (mg1 mg2 : Dv → M Unit) (ρ : VE) : sAsg2 m mg1 mg2 ρ = ((do
  let a ← m
  let d ← ali a
  mg1 d
  mg2 d
  pure .nx) : M Fl) ρ := (rfl)
@[simp ↓] theorem x_e4 (p p' p'' : Dv → Dv → M RV) (ma mb mc md : M AV) (ρ : VE) : e4 p p' p'' ma mb mc md ρ = ((do
  let x ← ma
  let y ← mb
  let d ← con x
  let e ← con y
  let k ← toB (p d e)
  if k = true then do
    let w ← mc
    let e ← con y
    let f ← con w
    let k2 ← toB (p' e f)
    if k2 = true then do
      let v ← md
      let f ← con w
      let h ← con v
      p'' f h
    else pure (.d (.bl false))
  else pure (.d (.bl false))) : M RV) ρ := (rfl)
@[simp ↓] theorem x_eCallX (n nk : Nat) (φ : List Sl → R RV) (ma mb : M (List AV)) (ρ : VE) : eCallX n nk φ ma mb ρ = ((do
  let as ← ma
  let bs ← mb
  M.grd (bs.length = nk)
  let ds ← aliL (as ++ bs)
  M.grd (ds.length = n)
  kCall (φ (ds.map Sl.val))) : M RV) ρ := (rfl)
@[simp] theorem x_noL_0  : noL  (.non) = (( true) : Bool) := by first | exact (rfl) | simp only [noL]
@[simp] theorem x_noL_1  : noL  (.bl w1) = (( true) : Bool) := by first | exact (rfl) | simp only [noL]
@[simp] theorem x_noL_2  : noL  (.int w1) = (( true) : Bool) := by first | exact (rfl) | simp only [noL]
@[simp] theorem x_noL_3  : noL  (.str w1) = (( true) : Bool) := by first | exact (rfl) | simp only [noL]
@[simp] theorem x_noL_4  : noL  (.cl w1) = (( true) : Bool) := by first | exact (rfl) | simp only [noL]
@[simp] theorem x_noL_5  : noL  (.tup xs) = (( noLs xs) : Bool) := by first | exact (rfl) | simp only [noL]
@[simp] theorem x_noL_6  : noL  (.ins w1 fs) = (( noLf fs) : Bool) := by first | exact (rfl) | simp only [noL]
@[simp] theorem x_noLs_0  : noLs  ([]) = (( true) : Bool) := by first | exact (rfl) | simp only [noLs]
@[simp] theorem x_noLs_1  : noLs  (d :: ds) = (( noL d && noLs ds) : Bool) := by first | exact (rfl) | simp only [noLs]
@[simp] theorem x_noLf_0  : noLf  ([]) = (( true) : Bool) := by first | exact (rfl) | simp only [noLf]
@[simp] theorem x_noLf_1  : noLf  (d :: ds) = (( noL d.2 && noLf ds) : Bool) := by first | exact (rfl) | simp only [noLf]
@[simp] theorem x_onlyL_0  : onlyL  ([]) = (( true) : Bool) := by first | exact (rfl) | simp only [onlyL]
@[simp] theorem x_onlyL_1  : onlyL  (.mu w1 (.lst w2) :: r) = (( onlyL r) : Bool) := by first | exact (rfl) | simp only [onlyL]
@[simp] theorem x_onlyL_2  : onlyL  (.no :: r) = (( onlyL r) : Bool) := by first | exact (rfl) | simp only [onlyL]
@[simp] theorem x_onlyL_3  : onlyL  (.val w1 :: r) = (( onlyL r) : Bool) := by first | exact (rfl) | simp only [onlyL]
@[simp] theorem x_onlyL_4  : onlyL  (.exn :: r) = (( onlyL r) : Bool) := by first | exact (rfl) | simp only [onlyL]
@[simp] theorem x_fzL_0  : fzL  (.d d) = (( noL d) : Bool) := by first | exact (rfl) | simp only [fzL]
@[simp] theorem x_fzL_1  : fzL  (.fr (.ins w1 fs)) = (( noLf fs) : Bool) := by first | exact (rfl) | simp only [fzL]
@[simp] theorem x_fzL_2  : fzL  (.fr (.lst xs)) = (( noLs xs) : Bool) := by first | exact (rfl) | simp only [fzL]
@[simp] theorem x_putG_0 {α : Type} (f : Str) (d : α) : putG f d ([]) = (( [(f, d)]) : List (Str × α)) := by first | exact (rfl) | simp only [putG]
@[simp] theorem x_putG_1 {α : Type} (f g : Str) (d x : α) (r : List (Str × α)) : putG f d ((g, x) :: r) = (( if g = f then (g, d) :: r else (g, x) :: putG f d r) : List (Str × α)) := by first | exact (rfl) | simp only [putG]
@[simp] theorem kMake_ok (d : Dv) (r ρ : VE) : kMake (.ok (.d .non) (.mu true d :: r)) ρ = .ok (.fr d) ρ := (rfl)
@[simp] theorem kMake_exc (e : Er) (r ρ : VE) : kMake (.exc e r) ρ = .exc e ρ := (rfl)
def eqK (ρ : VE) (r : R RV) : R RV := match r with
  | .ok (.d (.bl true)) _ => .ok (.d (.bl true)) ρ
  | _ => .bad
@[simp] theorem eqK_t (r ρ : VE) : eqK ρ (.ok (.d (.bl true)) r) = .ok (.d (.bl true)) ρ := (rfl)
@[simp ↓] theorem x_pEqI (φ : List Sl → R RV) (C C1 C2 : Addr) (fs gs : List (Str × Dv)) (ρ : VE) : pEqI φ C (.ins C1 fs) (.ins C2 gs) ρ = if C1 = C ∧ C2 = C then eqK ρ (φ [.val (.ins C1 fs), .val (.ins C2 gs)]) else .bad := (rfl)
def rdLK (m : M RV) (ρ : VE) (r : R RV) : R RV := match r with
  | .ok r _ => if (onlyL ρ && fzL r) = true then .ok r ρ else m ρ
  | _ => m ρ
@[simp ↓] theorem x_rdL (m : M RV) (ρ : VE) : rdL m ρ = rdLK m ρ (m (frzE ρ)) := (rfl)
@[simp] theorem rdLK_ok {m : M RV} {ρ ρ' : VE} {r : RV} : rdLK m ρ (.ok r ρ') = if (onlyL ρ && fzL r) = true then .ok r ρ else m ρ := (rfl)
end P0
end
section
set_option Elab.async false
set_option linter.all false
set_option maxRecDepth 100000
set_option maxHeartbeats 4000000
/-! P0w: what the math of many laws needs: ranges, loops, comprehensions, places, texts by sign, what may be shown. -/
namespace P0
open PySem PySem.Spec L2
open PyProof.Rows hiding St

@[simp ↓] theorem x_pEqB_tt (a b : List Dv) (ρ : VE) : pEqB (.tup a) (.tup b) ρ = if eqable (.tup a) = true ∧ eqable (.tup b) = true then .ok (PyData.eqv (toPy (.tup a)) (toPy (.tup b))) ρ else .bad := by
  unfold pEqB
  simp only [run_bR, run_grd']
  split <;> rfl
@[simp ↓] theorem x_pIsN_nn (n : Bool) (ρ : VE) : pIsN n .non .non ρ = .ok (.d (.bl (!n))) ρ := by cases n <;> simp [pIsN]
@[simp ↓] theorem x_pIsN_in (n : Bool) (i : Int) (ρ : VE) : pIsN n (.int i) .non ρ = .ok (.d (.bl n)) ρ := by cases n <;> simp [pIsN]
@[simp] theorem isExn_no : isExn .no = false := (rfl)
@[simp] theorem isExn_val (d : Dv) : isExn (.val d) = false := (rfl)
@[simp] theorem isExn_mu (b : Bool) (d : Dv) : isExn (.mu b d) = false := (rfl)
@[simp] theorem isExn_ot (t : Ot) : isExn (.ot t) = false := (rfl)
@[simp] theorem isExn_exn : isExn .exn = true := (rfl)
@[simp] theorem okRt_d (oi : Option Nat) (d : Dv) : okRt oi (.rt (.d d)) = true := by cases oi <;> rfl
@[simp] theorem okRt_fr (oi : Option Nat) (d : Dv) : okRt oi (.rt (.fr d)) = true := by cases oi <;> rfl
@[simp] theorem okRt_nx (oi : Option Nat) : okRt oi .nx = true := by cases oi <;> rfl
theorem rng_succ (lo : Int) (n : Nat) : rng lo (n + 1) = .int lo :: rng (lo + 1) n := by
  unfold rng
  rw [List.range_succ_eq_map, List.map_cons, List.map_map]
  congr 1
  · simp
  · apply List.map_congr_left
    intro i _
    simp
    omega
theorem rng_zero (lo : Int) : rng lo 0 = [] := rfl
theorem rng_length (lo : Int) (n : Nat) : (rng lo n).length = n := by simp [rng]
theorem rng_at {lo : Int} {n i : Nat} (h : i < n) : (rng lo n)[i]? = some (.int (lo + i)) := by
  unfold rng
  rw [List.getElem?_map, List.getElem?_range h]; rfl
theorem forL_nx {mg : Dv → M Unit} {mb : M Fl} {d : Dv} {ds : List Dv} {ρ ρ1 ρ2 : VE} (h : mg d ρ = .ok () ρ1) (b : mb ρ1 = .ok .nx ρ2) : forL mg mb (d :: ds) ρ = forL mg mb ds ρ2 := by
  rw [forL, run_bind, h]
  show (mb >>= _) ρ1 = _
  rw [run_bind, b]
theorem forL_rt {mg : Dv → M Unit} {mb : M Fl} {d : Dv} {ds : List Dv} {ρ ρ1 ρ2 : VE} {r : RV} (h : mg d ρ = .ok () ρ1) (b : mb ρ1 = .ok (.rt r) ρ2) : forL mg mb (d :: ds) ρ = .ok (.rt r) ρ2 := by
  rw [forL, run_bind, h]
  show (mb >>= _) ρ1 = _
  rw [run_bind, b]; rfl
theorem forL_exc {mg : Dv → M Unit} {mb : M Fl} {d : Dv} {ds : List Dv} {ρ ρ1 ρ2 : VE} {er : Er} (h : mg d ρ = .ok () ρ1) (b : mb ρ1 = .exc er ρ2) : forL mg mb (d :: ds) ρ = .exc er ρ2 := by
  rw [forL, run_bind, h]
  show (mb >>= _) ρ1 = _
  rw [run_bind, b]
theorem forL_nil {mg : Dv → M Unit} {mb : M Fl} {ρ : VE} : forL mg mb [] ρ = .ok .nx ρ := rfl
theorem atI0 {α : Type} (a : α) (l : List α) : atI (a :: l) 0 = some a := by
  have := atI_at (l := a :: l) (i := 0) (by simp)
  simpa using this
theorem atI1 {α : Type} (a b : α) (l : List α) : atI (a :: b :: l) 1 = some b := by
  have := atI_at (l := a :: b :: l) (i := 1) (by simp)
  simpa using this
theorem ixN0 (n : Nat) : ixN (n + 1) 0 = some 0 := by unfold ixN; simp
theorem ixN1 (n : Nat) : ixN (n + 1 + 1) 1 = some 1 := by
  unfold ixN
  rw [if_pos (by decide), if_pos (by omega)]; rfl
theorem seqI1 (n : Nat) : seqIndex? 1 (n + 1 + 1) = some 1 := by
  unfold seqIndex?
  simp
  omega
theorem ixN_neg1 (n : Nat) : ixN (n + 1) (-1) = some n := by
  unfold ixN
  rw [if_neg (by decide), if_pos (by omega)]
  congr 1
  omega
theorem atI_last {α : Type} (l : List α) (a : α) : atI (l ++ [a]) (-1) = some a := by
  unfold atI
  rw [List.length_append, List.length_singleton, ixN_neg1]
  show (l ++ [a])[l.length]? = _
  rw [List.getElem?_append_right (Nat.le_refl _), Nat.sub_self]; rfl
theorem atI_get {α : Type} {l : List α} {i : Nat} {x : α} (h : l[i]? = some x) : atI l (i : Int) = some x := by
  have hl := lt_of_get h
  rw [atI_at hl]
  rw [List.getElem?_eq_getElem hl] at h
  exact h
theorem atI_map {α β : Type} (f : α → β) (l : List α) (i : Int) : atI (l.map f) i = (atI l i).map f := by
  unfold atI
  rw [List.length_map]
  cases ixN l.length i with
  | none => rfl
  | some j => simp
structure Mod (m : Int) : Prop where
  pos : 0 < m
  div : ∀ i, CDivW i m
theorem Mod.of {m : Int} (h : 0 < m) (h2 : m < 2 ^ 200) : Mod m := ⟨h, fun i => ⟨h, by
  have : m.natAbs < 2 ^ 200 := by omega
  exact Nat.lt_of_lt_of_le ((Nat.log2_lt (by omega)).mpr this) (by decide)⟩⟩
def T60 : Int := 10 ^ 60
theorem pow60 (ρ : VE) : pPow (.int 10) (.int 60) ρ = .ok (.d (.int T60)) ρ := by
  have : CPow 10 60 := ⟨by decide, by decide, by decide⟩
  simp [this]
  rfl
theorem cut63 (ns : List Int) : cut (iz ns) none (some 63) = iz (ns.take 63) := by
  unfold cut
  rw [show (some (63 : Int)) = some ((63 : Nat) : Int) from rfl, HT.sIx_nat, HT.sIx_none, iz_length]
  unfold iz
  rw [List.drop_zero, Nat.sub_zero, ← List.map_take]
  congr 1
  rw [List.take_eq_take_iff]
  omega
def absI (i : Int) : Int := if i < 0 then -i else i
/-- a comprehension whose parts change nothing but the block's slots -/
theorem compL_gen {vs : List Nat} {mg : Dv → M Unit} {mt : M Bool} {me : M AV} {ρ0 : VE} (f : Dv → Bool) (e : Dv → Dv) (ρd : Dv → VE) : ∀ (ds acc : List Dv) (ρ : VE), (vs.any fun i => isIo (ρ[i]? : Option Sl)) = false → P0.wipeE ρ vs = ρ0 →
    (∀ d ∈ ds, mg d ρ0 = .ok () (ρd d) ∧ mt (ρd d) = .ok (f d) (ρd d) ∧ (f d = true → me (ρd d) = .ok (.d (e d)) (ρd d)) ∧ P0.wipeE (ρd d) vs = ρ0 ∧ (vs.any fun i => isIo ((ρd d)[i]? : Option Sl)) = false) →
    acc.length + ds.length < sizeLine → compL vs mg mt me ds acc ρ = .ok (acc ++ (ds.filter f).map e) ρ0
  | [], acc, ρ, h1, h2, _, _ => by
    simp [compL, wipeM, h1, h2]
  | d :: ds, acc, ρ, h1, h2, h3, h4 => by
    obtain ⟨a1, a2, a3, a4, a5⟩ := h3 d List.mem_cons_self
    rw [List.length_cons] at h4
    have hl : acc.length < sizeLine := by omega
    have w : wipeM vs ρ = .ok () ρ0 := by unfold wipeM; rw [h1, h2]; rfl
    cases hf : f d with
    | false =>
      have ih := compL_gen f e ρd ds acc (ρd d) a5 a4 (fun x hx => h3 x (List.mem_cons_of_mem _ hx)) (by omega)
      rw [hf] at a2
      rw [compL, run_bind, w]
      show (mg d >>= _) ρ0 = _
      rw [run_bind, a1]
      show (mt >>= _) (ρd d) = _
      rw [run_bind, a2]
      rw [List.filter_cons_of_neg (by rw [hf]; exact Bool.false_ne_true)]
      exact ih
    | true =>
      have ih := compL_gen f e ρd ds (acc ++ [e d]) (ρd d) a5 a4 (fun x hx => h3 x (List.mem_cons_of_mem _ hx)) (by simp; omega)
      rw [hf] at a2
      rw [compL, run_bind, w]
      show (mg d >>= _) ρ0 = _
      rw [run_bind, a1]
      show (mt >>= _) (ρd d) = _
      rw [run_bind, a2]
      show (me >>= _) (ρd d) = _
      rw [run_bind, a3 hf]
      show (M.grd (acc.length < sizeLine) >>= fun _ => compL vs mg mt me ds (acc ++ [e d])) (ρd d) = _
      rw [run_bind, run_grd, if_pos hl]
      rw [List.filter_cons_of_pos hf, List.map_cons]
      show compL vs mg mt me ds (acc ++ [e d]) (ρd d) = _
      rw [ih, List.append_assoc]; rfl
/-- .. all taken -/
theorem compL_all {vs : List Nat} {mg : Dv → M Unit} {me : M AV} {ρ0 : VE} {α : Type} (inj : α → Dv) (e : α → Dv) (ρd : α → VE) : ∀ (xs : List α) (acc : List Dv) (ρ : VE), (vs.any fun i => isIo (ρ[i]? : Option Sl)) = false → P0.wipeE ρ vs = ρ0 →
    (∀ x ∈ xs, mg (inj x) ρ0 = .ok () (ρd x) ∧ me (ρd x) = .ok (.d (e x)) (ρd x) ∧ P0.wipeE (ρd x) vs = ρ0 ∧ (vs.any fun i => isIo ((ρd x)[i]? : Option Sl)) = false) →
    acc.length + xs.length < sizeLine → compL vs mg (pure true) me (xs.map inj) acc ρ = .ok (acc ++ xs.map e) ρ0
  | [], acc, ρ, h1, h2, _, _ => by
    simp [compL, wipeM, h1, h2]
  | x :: xs, acc, ρ, h1, h2, h3, h4 => by
    obtain ⟨a1, a3, a4, a5⟩ := h3 x List.mem_cons_self
    rw [List.length_cons] at h4
    have hl : acc.length < sizeLine := by omega
    have w : wipeM vs ρ = .ok () ρ0 := by unfold wipeM; rw [h1, h2]; rfl
    have ih := compL_all inj e ρd xs (acc ++ [e x]) (ρd x) a5 a4 (fun y hy => h3 y (List.mem_cons_of_mem _ hy)) (by simp; omega)
    rw [List.map_cons, compL, run_bind, w]
    show (mg (inj x) >>= _) ρ0 = _
    rw [run_bind, a1]
    show (me >>= _) (ρd x) = _
    rw [run_bind, a3]
    show (M.grd (acc.length < sizeLine) >>= fun _ => compL vs mg (pure true) me (xs.map inj) (acc ++ [e x])) (ρd x) = _
    rw [run_bind, run_grd, if_pos hl]
    show compL vs mg (pure true) me (xs.map inj) (acc ++ [e x]) (ρd x) = _
    rw [ih, List.append_assoc]; rfl

/-! ### what may be shown -/
structure Sh (xs : List Dv) : Prop where
  h1 : isDts xs = true
  h2 : dpDs xs + 1 ≤ 60
  h3 : PyData.showableAll (toPys xs) = true
  h4 : PyData.bulkAll (toPys xs) ≤ 8000
theorem big19 {z : Int} (h : z.natAbs < 2 ^ 1000) : z.natAbs < 2 ^ 1900 := Nat.lt_of_lt_of_le h (Nat.pow_le_pow_right (by decide) (by decide))
theorem showI {z : Int} (h : z.natAbs < 2 ^ 1000) : (PyData.int z).showable = true := by
  have := showable_iz (l := [z]) (by intro y hy; rw [List.mem_singleton.mp hy]; exact big19 h)
  simpa [toPys, toPy, PyData.showableAll] using this
theorem showI' {z : Int} (h : -(10 ^ 30) ≤ z) (h2 : z ≤ 10 ^ 30) : (PyData.int z).showable = true := showI (Nat.lt_of_le_of_lt (show z.natAbs ≤ 10 ^ 30 by omega) (by decide +kernel))

/-! ### texts by sign -/
def cd (l : List Nat) : Str := ⟨l.toArray⟩
@[simp] theorem cd_cps (l : List Nat) : (cd l).cps = l.toArray := rfl
@[simp] theorem cd_len (l : List Nat) : (cd l).length = l.length := by simp [cd, Str.length]
@[simp] theorem cd_cat (a b : List Nat) : cd a ++ cd b = cd (a ++ b) := TL.ext_tl (TL.tl_append (cd a) (cd b))
theorem cd_inj {a b : List Nat} (h : cd a = cd b) : a = b := congrArg (fun x : Str => x.cps.toList) h
@[simp] theorem cd_eq {a b : List Nat} : (cd a = cd b) = (a = b) := propext ⟨cd_inj, fun h => by rw [h]⟩
theorem cd_mul (c : Nat) (n : Int) : Txt.mul (cd [c]) n = cd (List.replicate n.toNat c) := TL.ext_tl (mul_one_list c n)
theorem cd_cut (a : List Nat) (lo hi : Option Int) : cutS (cd a) lo hi = cd (cut a lo hi) := by
  unfold cutS cut cd
  simp [Str.length]
theorem cd_join (l : List (List Nat)) : Txt.join (cd []) (l.map cd) = cd l.flatten := by
  have e := SX.join_S [] l
  have h : ∀ l : List (List Nat), TL.joinL [] l = l.flatten := by
    intro l
    induction l with
    | nil => rfl
    | cons a l ih =>
      cases l with
      | nil => simp [TL.joinL]
      | cons b l => rw [TL.joinL, ih] <;> simp
  rw [h] at e
  exact e
theorem cd_ix (a : List Nat) (i : Int) (h : a.length ≤ 1000000) (ρ : VE) : pIx (.str (cd a)) (.int i) ρ = match atI a i with
    | some c => .ok (.d (.str (cd [c]))) ρ
    | none => .bad := by
  have hz : a.length ≤ sizeLine := szle h
  unfold pIx
  cases e : atI a i with
  | none => simp [e]
  | some c => simp [e, hz]; rfl

open PySem.Builtin PySem.Builtin.Str PySem.StrLaws in
theorem occ_num (x : Str) (c lim : Nat) : ∀ (l : List Nat) (st : Array Nat × Nat), List.Pairwise (· < ·) l → (∀ i ∈ l, st.2 ≤ i) → st.1.size + l.length ≤ lim →
    ((forIn l st (occBody x ⟨#[c]⟩ x.length lim)).run.fst).size = st.1.size + l.countP fun i => x.cps.toList[i]? == some c
  | [], st, _, _, _ => by simp
  | a :: l, st, hp, h, hl => by
    rw [List.forIn_cons]
    rw [List.pairwise_cons] at hp
    rw [List.length_cons] at hl
    have ha := h a List.mem_cons_self
    have k := subAt_one x c a
    by_cases hc : x.cps.toList[a]? = some c
    · have k2 := k.mpr hc
      have e : occBody x ⟨#[c]⟩ x.length lim a st = pure (ForInStep.yield (st.fst.push a, a + (⟨#[c]⟩ : Str).length)) := if_pos ⟨⟨⟨by omega, ha⟩, k2.1⟩, k2.2⟩
      rw [e, List.countP_cons_of_pos (by rw [hc]; exact beq_self_eq_true _)]
      have ih := occ_num x c lim l (st.fst.push a, a + (⟨#[c]⟩ : Str).length) hp.2 (fun i hi => by
        have := hp.1 i hi
        show a + 1 ≤ i
        omega) (by simp; omega)
      refine Eq.trans ih ?_
      simp
      omega
    · have k2 : ¬ ((((st.fst.size < lim ∧ st.snd ≤ a) ∧ a + (⟨#[c]⟩ : Str).length ≤ x.length) ∧ subAt x ⟨#[c]⟩ a = true)) := fun z => hc (k.mp ⟨z.1.2, z.2⟩)
      have e : occBody x ⟨#[c]⟩ x.length lim a st = pure (ForInStep.yield (st.fst, st.snd)) := if_neg k2
      rw [e, List.countP_cons_of_neg (by simpa using hc)]
      exact occ_num x c lim l st hp.2 (fun i hi => h i (List.mem_cons_of_mem _ hi)) (by omega)
theorem countP_range' (c : Nat) : ∀ (a : List Nat) (k : Nat) (f : Nat → Option Nat), (∀ i, f (k + i) = a[i]?) → (List.range' k (a.length + 1)).countP (fun i => f i == some c) = a.count c
  | [], k, f, h => by
    have := h 0
    simp at this
    simp [List.range'_succ, this]
  | x :: a, k, f, h => by
    rw [List.length_cons, List.range'_succ, List.countP_cons, countP_range' c a (k + 1) f (fun i => by rw [show k + 1 + i = k + (i + 1) by omega, h]; rfl), List.count_cons]
    have := h 0
    simp at this
    simp [this]
open PySem.Builtin PySem.Builtin.Str PySem.StrLaws in
theorem cd_count (a : List Nat) (c : Nat) : Txt.count (cd a) (cd [c]) = (a.count c : Nat) := by
  unfold Txt.count
  rw [occ_eq]
  have e := occ_num (cd a) c ((cd a).length + 1) (List.range' 0 ((cd a).length + 1 - 0)) (#[], 0) (List.pairwise_lt_range') (fun i _ => Nat.zero_le _) (by simp)
  have e2 : cd [c] = ⟨#[c]⟩ := rfl
  rw [e2, Array.length_toList]
  refine congrArg Nat.cast (Eq.trans e ?_)
  have := countP_range' c a 0 (fun i => (cd a).cps.toList[i]?) (fun i => by simp)
  simpa using this
def chs (l : List Nat) : List Dv := l.map fun c => .str (cd [c])
theorem cd_walk (l : List Nat) : walk? (.str (cd l)) = some (chs l) := by
  show some (chars (cd l)) = _
  congr 1
end P0
end
section
set_option Elab.async false
set_option linter.all false
set_option maxRecDepth 100000
set_option maxHeartbeats 4000000
/-! P0yc: reckoning of generators and of comprehensions of two fors. -/
namespace P0
open PySem PySem.Spec L2
open PyProof.Rows hiding St
@[simp ↓] theorem x_eComp2 (vs : List Nat) (mi : M (List Dv)) (mg : Dv → M Unit) (mt : M Bool) (mi1 : M (List Dv)) (vs1 : List Nat) (mg1 : Dv → M Unit) (mt1 : M Bool) (me : M AV) (ρ : VE) : eComp2 vs mi mg mt mi1 vs1 mg1 mt1 me ρ = ((do
  let ds ← mi
  let r ← noX (compL2 vs mg mt mi1 (compL vs1 mg1 mt1 me) ds [])
  pure (.fr (.lst r))) : M RV) ρ := (rfl)
@[simp ↓] theorem x_kGen (ns : List Str) (r : R (List Dv)) (ρ : VE) : kGen ns r ρ = (match r with
  | .ok outs _ => .ok (.fr (.lst outs)) ρ
  | .exc er _ => if er.name ∈ ns then .exc er ρ else .bad
  | .bad => .bad) := (rfl)
@[simp ↓] theorem x_eListG (ns : List Str) (n : Nat) (φ : List Sl → R (List Dv)) (ma : M (List AV)) (ρ : VE) : eListG ns n φ ma ρ = ((do
  let as ← ma
  let ds ← aliL as
  M.grd (ds.length = n)
  kGen ns (φ (ds.map Sl.val))) : M RV) ρ := (rfl)
theorem runG_def (n : Nat) (b : M (List Dv)) (sl : List Sl) : runG n b sl = b (sl ++ List.replicate n Sl.no) := (rfl)
@[simp ↓] theorem x_gSeq (m : M Fl) (n : M (List Dv)) (ρ : VE) : gSeq m n ρ = ((do
  let f ← m
  match f with
  | .nx => n
  | _ => M.bad) : M (List Dv)) ρ := (rfl)
@[simp ↓] theorem x_gFor (mi : M (List Dv)) (mg : Dv → M Unit) (me : M AV) (ρ : VE) : gFor mi mg me ρ = ((do
  let ds ← mi
  M.grd (ds.length < sizeLine)
  forY mg me ds) : M (List Dv)) ρ := (rfl)
theorem forY_map {mg : Dv → M Unit} {me : M AV} {α : Type} (inj : α → Dv) (e : α → Dv) (I : VE → Prop) (h : ∀ x ρ, I ρ → ∃ ρ', mg (inj x) ρ = .ok () ρ' ∧ me ρ' = .ok (.d (e x)) ρ' ∧ I ρ') :
    ∀ (xs : List α) (ρ : VE), I ρ → ∃ ρ', I ρ' ∧ forY mg me (xs.map inj) ρ = .ok (xs.map e) ρ'
  | [], ρ, hi => ⟨ρ, hi, rfl⟩
  | x :: xs, ρ, hi => by
    obtain ⟨ρ1, a, b, c⟩ := h x ρ hi
    obtain ⟨ρ2, i2, ih⟩ := forY_map inj e I h xs ρ1 c
    refine ⟨ρ2, i2, ?_⟩
    rw [List.map_cons, forY, run_bind, a]
    show (me >>= _) ρ1 = _
    rw [run_bind, b]
    show (avd (.d (e x)) >>= fun x => forY mg me (xs.map inj) >>= fun r => pure (x :: r)) ρ1 = _
    rw [run_bind]
    show (forY mg me (xs.map inj) >>= fun r => pure (e x :: r)) ρ1 = _
    rw [run_bind, ih]
    rfl
theorem compL2_gen {vs : List Nat} {mg : Dv → M Unit} {mi1 : M (List Dv)} {mc : List Dv → List Dv → M (List Dv)} {ρ0 : VE} {α : Type} (inj : α → Dv) (g : α → List Dv) (ys : List Dv) (c : Nat) (ρd ρf : α → VE) : ∀ (xs : List α) (acc : List Dv) (ρ : VE), (vs.any fun i => isIo (ρ[i]? : Option Sl)) = false → P0.wipeE ρ vs = ρ0 →
    (∀ x ∈ xs, mg (inj x) ρ0 = .ok () (ρd x) ∧ mi1 (ρd x) = .ok ys (ρd x) ∧ (g x).length ≤ c ∧ (∀ acc : List Dv, acc.length + c < sizeLine → mc ys acc (ρd x) = .ok (acc ++ g x) (ρf x)) ∧ P0.wipeE (ρf x) vs = ρ0 ∧ (vs.any fun i => isIo ((ρf x)[i]? : Option Sl)) = false) →
    acc.length + xs.length * c < sizeLine → compL2 vs mg (pure true) mi1 mc (xs.map inj) acc ρ = .ok (acc ++ xs.flatMap g) ρ0
  | [], acc, ρ, h1, h2, _, _ => by
    simp [compL2, wipeM, h1, h2]
  | x :: xs, acc, ρ, h1, h2, h3, h4 => by
    obtain ⟨a1, a2, a3, a4, a5, a6⟩ := h3 x List.mem_cons_self
    rw [List.length_cons, Nat.succ_mul] at h4
    have w : wipeM vs ρ = .ok () ρ0 := by unfold wipeM; rw [h1, h2]; rfl
    have ih := compL2_gen inj g ys c ρd ρf xs (acc ++ g x) (ρf x) a6 a5 (fun y hy => h3 y (List.mem_cons_of_mem _ hy)) (by rw [List.length_append]; omega)
    rw [List.map_cons, compL2, run_bind, w]
    show (mg (inj x) >>= _) ρ0 = _
    rw [run_bind, a1]
    show (mi1 >>= _) (ρd x) = _
    rw [run_bind, a2]
    show (mc ys acc >>= _) (ρd x) = _
    rw [run_bind, a4 acc (by omega)]
    show compL2 vs mg (pure true) mi1 mc (xs.map inj) (acc ++ g x) (ρf x) = _
    rw [ih, List.append_assoc, List.flatMap_cons]
theorem lg {z : Int} {k : Nat} (h : z.natAbs < 2 ^ k) (h0 : 1 ≤ k) : z.natAbs.log2 < k := by
  by_cases hz : z.natAbs = 0
  · rw [hz]; exact h0
  · exact (Nat.log2_lt hz).mpr h
theorem cmul {i j : Int} (h1 : -(10 ^ 30) ≤ i) (h2 : i ≤ 10 ^ 30) (h3 : -(10 ^ 30) ≤ j) (h4 : j ≤ 10 ^ 30) : CMulW i j := by
  have a := lg (z := i) (k := 100) (Nat.lt_of_le_of_lt (show i.natAbs ≤ 10 ^ 30 by omega) (by decide +kernel)) (by decide)
  have b := lg (z := j) (k := 100) (Nat.lt_of_le_of_lt (show j.natAbs ≤ 10 ^ 30 by omega) (by decide +kernel)) (by decide)
  show _ + _ < 1000000
  omega
theorem szl {n : Nat} (h : n ≤ 1000000) : (n ≤ sizeLine) = True := eq_true (szle h)
theorem szl' {n : Nat} (h : n ≤ 1000000) : (n < sizeLine) = True := eq_true (szlt h)
end P0
end
section
set_option Elab.async false
set_option linter.all false
set_option maxRecDepth 100000
set_option maxHeartbeats 4000000
namespace K41
open PySem P0

/-! ### bracket words and staircases, no program in sight -/
def Ch : Nat × Nat → List (Nat × Nat) → Nat → Prop
  | p, [], m => p.1 < p.2 ∧ p.2 = m
  | p, q :: r, m => p.1 < p.2 ∧ p.1 ≤ q.1 ∧ q.1 < p.2 ∧ p.2 ≤ q.2 ∧ Ch q r m
theorem Ch.lt {p : Nat × Nat} {r : List (Nat × Nat)} {m : Nat} (h : Ch p r m) : p.1 < p.2 := by
  cases r with
  | nil => exact h.1
  | cons q r => exact h.1
/-- the height behind a word -/
def rd : Nat → List Nat → Option Nat
  | h, [] => some h
  | h, c :: r => if c = 40 then rd (h + 1) r else if c = 41 then (if h = 0 then none else rd (h - 1) r) else none
theorem rd_app : ∀ (a b : List Nat) (h : Nat), rd h (a ++ b) = (rd h a).bind fun g => rd g b
  | [], b, h => rfl
  | c :: a, b, h => by
    rw [List.cons_append, rd, rd]
    split
    · exact rd_app a b (h + 1)
    · split
      · split
        · rfl
        · exact rd_app a b (h - 1)
      · rfl
theorem rd_up : ∀ (n h : Nat) (r : List Nat), rd h (List.replicate n 40 ++ r) = rd (h + n) r
  | 0, h, r => rfl
  | n + 1, h, r => by
    rw [List.replicate_succ, List.cons_append, rd, if_pos rfl, rd_up n (h + 1) r]
    congr 1; omega
theorem rd_down : ∀ (n h : Nat) (r : List Nat), n ≤ h → rd h (List.replicate n 41 ++ r) = rd (h - n) r
  | 0, h, r, _ => rfl
  | n + 1, h, r, hn => by
    rw [List.replicate_succ, List.cons_append, rd, if_neg (by decide), if_pos rfl, if_neg (by omega), rd_down n (h - 1) r (by omega)]
    congr 1; omega
theorem rd_mem : ∀ (w : List Nat) (h g : Nat), rd h w = some g → ∀ c ∈ w, c = 40 ∨ c = 41
  | [], _, _, _, c, hc => by cases hc
  | a :: w, h, g, e, c, hc => by
    rw [rd] at e
    split at e
    · rename_i ha
      rcases List.mem_cons.mp hc with rfl | hc
      · exact .inl ha
      · exact rd_mem w _ _ e c hc
    · split at e
      · rename_i ha
        split at e
        · cases e
        · rcases List.mem_cons.mp hc with rfl | hc
          · exact .inr ha
          · exact rd_mem w _ _ e c hc
      · cases e
/-- what is written behind the brackets ( of a row -/
def wd : Nat × Nat → List (Nat × Nat) → List Nat
  | p, [] => List.replicate (p.2 - p.1) 41
  | p, q :: r => List.replicate (q.1 - p.1 + 1) 41 ++ (List.replicate (q.2 - p.2 + 1) 40 ++ wd q r)
def word : List (Nat × Nat) → List Nat
  | [] => []
  | p :: r => List.replicate (p.2 - p.1) 40 ++ wd p r
theorem wd_len : ∀ (r : List (Nat × Nat)) (p : Nat × Nat) (m : Nat), Ch p r m → (wd p r).length + p.2 + p.1 = 2 * (m + r.length)
  | [], p, m, h => by
    have h1 := h.1
    have h2 := h.2
    simp [wd]; omega
  | q :: r, p, m, h => by
    have ih := wd_len r q m h.2.2.2.2
    obtain ⟨a, b, c, d, _⟩ := h
    simp [wd]; omega
theorem wd_rd : ∀ (r : List (Nat × Nat)) (p : Nat × Nat) (m : Nat), Ch p r m → rd (p.2 - p.1) (wd p r) = some 0
  | [], p, m, h => by
    have := rd_down (p.2 - p.1) (p.2 - p.1) [] (Nat.le_refl _)
    rw [List.append_nil] at this
    rw [wd, this, Nat.sub_self]; rfl
  | q :: r, p, m, h => by
    have ih := wd_rd r q m h.2.2.2.2
    obtain ⟨a, b, c, d, _⟩ := h
    rw [wd, rd_down _ _ _ (by omega), rd_up]
    rw [← ih]
    congr 1; omega
mutual
theorem dec_up (f e : Nat) (hf : f < e) : ∀ (r : List Nat), rd (e - f) r = some 0 → ∃ e2 R m, e ≤ e2 ∧ Ch (f, e2) R m ∧ r = List.replicate (e2 - e) 40 ++ wd (f, e2) R
  | [], h => by
    have : e - f = 0 := by simpa [rd] using h
    omega
  | c :: r, h => by
    rw [rd] at h
    split at h
    · rename_i hc
      obtain ⟨e2, R, m, h1, h2, h3⟩ := dec_up f (e + 1) (by omega) r (by first | exact h | (rw [← h]; congr 1; omega))
      refine ⟨e2, R, m, by omega, h2, ?_⟩
      rw [hc, h3, show e2 - e = (e2 - (e + 1)) + 1 by omega, List.replicate_succ, List.cons_append]
    · split at h
      · rename_i hc
        split at h
        · cases h
        · obtain ⟨R, m, h2, h3⟩ := dec_down f e 1 (Nat.le_refl _) (by omega) r (by first | exact h | (rw [← h]; congr 1; omega))
          refine ⟨e, R, m, Nat.le_refl _, h2, ?_⟩
          rw [Nat.sub_self, ← h3, hc]; rfl
      · cases h
theorem dec_down (f e g : Nat) (hg : 1 ≤ g) (hf : g ≤ e - f) : ∀ (r : List Nat), rd (e - f - g) r = some 0 → ∃ R m, Ch (f, e) R m ∧ List.replicate g 41 ++ r = wd (f, e) R
  | [], h => by
    have h' : e - f - g = 0 := by simpa [rd] using h
    refine ⟨[], e, ⟨by show f < e; omega, rfl⟩, ?_⟩
    rw [wd, List.append_nil]
    congr 1
    show g = e - f
    omega
  | c :: r, h => by
    rw [rd] at h
    split at h
    · rename_i hc
      obtain ⟨e2, R, m, h1, h2, h3⟩ := dec_up (f + g - 1) e (by omega) r (by first | exact h | (rw [← h]; congr 1; omega))
      refine ⟨(f + g - 1, e2) :: R, m, ⟨by show f < e; omega, by show f ≤ f + g - 1; omega, by show f + g - 1 < e; omega, h1, h2⟩, ?_⟩
      rw [wd, h3, hc]
      show _ = List.replicate (f + g - 1 - f + 1) 41 ++ (List.replicate (e2 - e + 1) 40 ++ _)
      rw [show f + g - 1 - f + 1 = g by omega, List.replicate_succ]; rfl
    · split at h
      · rename_i hc
        split at h
        · cases h
        · obtain ⟨R, m, h2, h3⟩ := dec_down f e (g + 1) (by omega) (by omega) r (by first | exact h | (rw [← h]; congr 1; omega))
          refine ⟨R, m, h2, ?_⟩
          rw [← h3, hc, List.replicate_succ']
          simp
      · cases h
end
/-- each balanced word is the word of a staircase -/
theorem dec {w : List Nat} (hw : w ≠ []) (h : rd 0 w = some 0) : ∃ e r m, Ch (0, e) r m ∧ w = word ((0, e) :: r) := by
  cases w with
  | nil => exact absurd rfl hw
  | cons c w =>
    rw [rd] at h
    split at h
    · rename_i hc
      obtain ⟨e2, R, m, h1, h2, h3⟩ := dec_up 0 1 (by omega) w h
      refine ⟨e2, R, m, h2, ?_⟩
      rw [word, hc, h3]
      show _ = List.replicate (e2 - 0) 40 ++ _
      rw [show e2 - 0 = (e2 - 1) + 1 by omega, List.replicate_succ]; rfl
    · split at h
      · rw [if_pos rfl] at h; cases h
      · cases h
/-! heights between two signs -/
def hts (a b : Nat) : Option Nat → Int → List Nat → List Int
  | _, _, [] => []
  | l, h, c :: r => (if l = some a ∧ c = b then [h] else []) ++ hts a b (some c) (h + if c = 40 then 1 else -1) r
theorem hts_no {a b c : Nat} (h : c ≠ b ∨ c ≠ a) (k : Int) (hk : k = if c = 40 then 1 else -1) : ∀ (n : Nat) (z : Int) (r : List Nat), hts a b (some c) z (List.replicate n c ++ r) = hts a b (some c) (z + n * k) r
  | 0, z, r => by simp
  | n + 1, z, r => by
    rw [List.replicate_succ, List.cons_append, hts, if_neg (by rintro ⟨x, y⟩; cases x; rcases h with h | h <;> exact h (by omega)), ← hk, hts_no h k hk n (z + k) r, List.nil_append]
    congr 1
    rw [Int.natCast_succ, Int.add_mul]
    omega
theorem hts_run {a b c : Nat} (h : c ≠ b ∨ c ≠ a) (k : Int) (hk : k = if c = 40 then 1 else -1) (n : Nat) (z : Int) (l : Option Nat) (r : List Nat) :
    hts a b l z (List.replicate (n + 1) c ++ r) = (if l = some a ∧ c = b then [z] else []) ++ hts a b (some c) (z + (n + 1) * k) r := by
  rw [List.replicate_succ, List.cons_append, hts, ← hk, hts_no h k hk n (z + k) r]
  congr 2
  rw [Int.add_mul]
  omega
theorem tops_wd : ∀ (r : List (Nat × Nat)) (p : Nat × Nat) (m : Nat), Ch p r m → hts 40 41 (some 40) ((p.2 : Int) - p.1) (wd p r) = (p :: r).map fun q => ((q.2 : Int) - q.1)
  | [], p, m, h => by
    have h1 := h.lt
    have := hts_run (a := 40) (b := 41) (c := 41) (.inr (by decide)) (-1) (by simp) (p.2 - p.1 - 1) ((p.2 : Int) - p.1) (some 40) []
    rw [List.append_nil] at this
    rw [wd, show p.2 - p.1 = (p.2 - p.1 - 1) + 1 by omega, this]
    simp [hts]
  | q :: r, p, m, h => by
    have ih := tops_wd r q m h.2.2.2.2
    obtain ⟨a, b, c, d, _⟩ := h
    rw [wd, hts_run (a := 40) (b := 41) (c := 41) (.inr (by decide)) (-1) (by simp), hts_run (a := 40) (b := 41) (c := 40) (.inl (by decide)) 1 (by simp)]
    rw [List.map_cons, ← ih]
    simp
    congr 1
    omega
/-- the heights of the bottoms -/
def low : Nat × Nat → List (Nat × Nat) → List Int
  | _, [] => []
  | p, q :: r => ((p.2 : Int) - q.1 - 1) :: low q r
theorem bots_wd : ∀ (r : List (Nat × Nat)) (p : Nat × Nat) (m : Nat), Ch p r m → hts 41 40 (some 40) ((p.2 : Int) - p.1) (wd p r) = low p r
  | [], p, m, h => by
    have h1 := h.lt
    have := hts_run (a := 41) (b := 40) (c := 41) (.inl (by decide)) (-1) (by simp) (p.2 - p.1 - 1) ((p.2 : Int) - p.1) (some 40) []
    rw [List.append_nil] at this
    rw [wd, show p.2 - p.1 = (p.2 - p.1 - 1) + 1 by omega, this]
    simp [hts, low]
  | q :: r, p, m, h => by
    have ih := bots_wd r q m h.2.2.2.2
    obtain ⟨a, b, c, d, _⟩ := h
    rw [wd, hts_run (a := 41) (b := 40) (c := 41) (.inl (by decide)) (-1) (by simp), hts_run (a := 41) (b := 40) (c := 40) (.inr (by decide)) 1 (by simp)]
    rw [low, ← ih]
    simp
    constructor
    · omega
    · congr 1; omega
theorem tops_word {e m : Nat} {r : List (Nat × Nat)} (h : Ch (0, e) r m) (l : Option Nat) : hts 40 41 l 0 (word ((0, e) :: r)) = ((0, e) :: r).map fun q => ((q.2 : Int) - q.1) := by
  have h1 : 0 < e := h.lt
  have k := tops_wd r (0, e) m h
  rw [word]
  show hts 40 41 l 0 (List.replicate (e - 0) 40 ++ wd (0, e) r) = _
  rw [show e - 0 = (e - 1) + 1 by omega, hts_run (a := 40) (b := 41) (c := 40) (.inl (by decide)) 1 (by simp), if_neg (by rintro ⟨_, y⟩; cases y), List.nil_append, ← k]
  congr 1
  show 0 + (((e - 1 : Nat) : Int) + 1) * 1 = (e : Int) - (0 : Nat)
  omega
theorem bots_word {e m : Nat} {r : List (Nat × Nat)} (h : Ch (0, e) r m) (l : Option Nat) (hl : l ≠ some 41) : hts 41 40 l 0 (word ((0, e) :: r)) = low (0, e) r := by
  have h1 : 0 < e := h.lt
  have k := bots_wd r (0, e) m h
  rw [word]
  show hts 41 40 l 0 (List.replicate (e - 0) 40 ++ wd (0, e) r) = _
  rw [show e - 0 = (e - 1) + 1 by omega, hts_run (a := 41) (b := 40) (c := 40) (.inr (by decide)) 1 (by simp), if_neg (by rintro ⟨y, _⟩; exact hl y), List.nil_append, ← k]
  congr 1
  show 0 + (((e - 1 : Nat) : Int) + 1) * 1 = (e : Int) - (0 : Nat)
  omega
def Mon : Nat → List Nat → Nat → Prop
  | r, [], m => r ≤ m
  | r, c :: cs, m => r ≤ c ∧ Mon c cs m
theorem Mon.le : ∀ {r : Nat} {cs : List Nat} {m : Nat}, Mon r cs m → r ≤ m
  | _, [], _, h => h
  | _, _ :: _, _, h => Nat.le_trans h.1 (Mon.le h.2)
theorem Mon.mem : ∀ {r : Nat} {cs : List Nat} {m : Nat}, Mon r cs m → ∀ c ∈ cs, r ≤ c ∧ c ≤ m
  | _, [], _, _, _, hc => by cases hc
  | _, a :: cs, _, h, c, hc => by
    rcases List.mem_cons.mp hc with rfl | hc
    · exact ⟨h.1, h.2.le⟩
    · have := Mon.mem h.2 c hc
      exact ⟨Nat.le_trans h.1 this.1, this.2⟩
variable {S : List (Nat × Nat)} {m : Nat}
theorem Ch.le : ∀ {r : List (Nat × Nat)} {p : Nat × Nat} {m : Nat}, Ch p r m → p.2 ≤ m
  | [], _, _, h => Nat.le_of_eq h.2
  | q :: r, _, _, h => Nat.le_trans h.2.2.2.1 (Ch.le h.2.2.2.2)
theorem Ch.es : ∀ {r : List (Nat × Nat)} {p : Nat × Nat} {m : Nat}, Ch p r m → Mon p.2 (r.map (·.2)) m
  | [], _, _, h => Nat.le_of_eq h.2
  | q :: r, _, _, h => ⟨h.2.2.2.1, Ch.es h.2.2.2.2⟩
theorem Ch.fs : ∀ {r : List (Nat × Nat)} {p : Nat × Nat} {m : Nat}, Ch p r m → Mon p.1 (r.map (·.1)) m
  | [], p, m, h => by
    have h1 := h.1
    have h2 := h.2
    show p.1 ≤ m
    omega
  | q :: r, _, _, h => ⟨h.2.1, Ch.fs h.2.2.2.2⟩
theorem Ch.all : ∀ {r : List (Nat × Nat)} {p : Nat × Nat} {m : Nat}, Ch p r m → ∀ x ∈ p :: r, p.1 ≤ x.1 ∧ x.1 < x.2 ∧ x.2 ≤ m
  | [], p, m, h, x, hx => by
    rw [List.mem_singleton.mp hx]
    exact ⟨Nat.le_refl _, h.1, Nat.le_of_eq h.2⟩
  | q :: r, p, m, h, x, hx => by
    rcases List.mem_cons.mp hx with rfl | hx
    · exact ⟨Nat.le_refl _, h.1, Ch.le h⟩
    · have := Ch.all h.2.2.2.2 x hx
      exact ⟨Nat.le_trans h.2.1 this.1, this.2⟩
theorem Ch.step : ∀ {r : List (Nat × Nat)} {p : Nat × Nat} {m : Nat} {i : Nat} {x y : Nat × Nat}, Ch p r m → (p :: r)[i]? = some x → (p :: r)[i + 1]? = some y → x.1 ≤ y.1 ∧ y.1 < x.2 ∧ x.2 ≤ y.2
  | [], p, m, i, x, y, h, hx, hy => by simp at hy
  | q :: r, p, m, 0, x, y, h, hx, hy => by
    simp at hx hy
    subst hx; subst hy
    exact ⟨h.2.1, h.2.2.1, h.2.2.2.1⟩
  | q :: r, p, m, i + 1, x, y, h, hx, hy => Ch.step (i := i) h.2.2.2.2 (by simpa using hx) (by simpa using hy)
theorem Ch.last : ∀ {r : List (Nat × Nat)} {p : Nat × Nat} {m : Nat} {x : Nat × Nat}, Ch p r m → (p :: r)[r.length]? = some x → x.2 = m
  | [], p, m, x, h, hx => by simp at hx; subst hx; exact h.2
  | q :: r, p, m, x, h, hx => Ch.last h.2.2.2.2 (by simpa using hx)
structure Stair (S : List (Nat × Nat)) (m : Nat) : Prop where
  ex : ∃ e r, S = (0, e) :: r ∧ Ch (0, e) r m
def fsN (S : List (Nat × Nat)) : List Nat := S.map (·.1)
def esN (S : List (Nat × Nat)) : List Nat := S.map (·.2)
theorem Stair.ne (h : Stair S m) : S ≠ [] := by obtain ⟨e, r, rfl, _⟩ := h.ex; exact List.cons_ne_nil _ _
theorem Stair.pos (h : Stair S m) : 0 < S.length := List.length_pos_iff.mpr h.ne
theorem Stair.fs (h : Stair S m) : Mon 0 (fsN S) m := by
  obtain ⟨e, r, rfl, c⟩ := h.ex
  exact ⟨Nat.le_refl _, c.fs⟩
theorem Stair.es (h : Stair S m) : Mon 0 (esN S) m := by
  obtain ⟨e, r, rfl, c⟩ := h.ex
  exact ⟨Nat.zero_le _, c.es⟩
theorem Stair.all (h : Stair S m) : ∀ x ∈ S, x.1 < x.2 ∧ x.2 ≤ m := by
  obtain ⟨e, r, rfl, c⟩ := h.ex
  exact fun x hx => (c.all x hx).2
theorem Stair.step (h : Stair S m) {i : Nat} {x y : Nat × Nat} (hx : S[i]? = some x) (hy : S[i + 1]? = some y) : x.1 ≤ y.1 ∧ y.1 < x.2 ∧ x.2 ≤ y.2 := by
  obtain ⟨e, r, rfl, c⟩ := h.ex
  exact c.step hx hy
theorem Stair.last (h : Stair S m) {x : Nat × Nat} (hx : S[S.length - 1]? = some x) : x.2 = m := by
  obtain ⟨e, r, rfl, c⟩ := h.ex
  exact c.last (by simpa using hx)
theorem Stair.zero (h : Stair S m) {x : Nat × Nat} (hx : S[0]? = some x) : x.1 = 0 := by
  obtain ⟨e, r, rfl, c⟩ := h.ex
  simp at hx; subst hx; rfl
theorem Stair.mpos (h : Stair S m) : 1 ≤ m := by
  obtain ⟨e, r, rfl, c⟩ := h.ex
  have := c.lt
  have := c.le
  omega
theorem Stair.mono1 (h : Stair S m) : ∀ (k i : Nat) {x y : Nat × Nat}, S[i]? = some x → S[i + k]? = some y → x.1 ≤ y.1
  | 0, i, x, y, hx, hy => by
    rw [Nat.add_zero, hx] at hy
    rw [Option.some.inj hy]; exact Nat.le_refl _
  | k + 1, i, x, y, hx, hy => by
    have hl := lt_of_get hy
    have hz : S[i + k]? = some S[i + k] := List.getElem?_eq_getElem (by omega)
    have a := h.mono1 k i hx hz
    have b := h.step hz (by rw [← hy]; rfl)
    omega
theorem Stair.mono2 (h : Stair S m) : ∀ (k i : Nat) {x y : Nat × Nat}, S[i]? = some x → S[i + k]? = some y → x.2 ≤ y.2
  | 0, i, x, y, hx, hy => by
    rw [Nat.add_zero, hx] at hy
    rw [Option.some.inj hy]; exact Nat.le_refl _
  | k + 1, i, x, y, hx, hy => by
    have hl := lt_of_get hy
    have hz : S[i + k]? = some S[i + k] := List.getElem?_eq_getElem (by omega)
    have a := h.mono2 k i hx hz
    have b := h.step hz (by rw [← hy]; rfl)
    omega
end K41
end
section
set_option Elab.async false
set_option linter.all false
set_option maxRecDepth 100000
set_option maxHeartbeats 4000000
namespace K41
open PySem L2 P0
variable {ca : Nat → Addr}
theorem run_draw {p : List Int} {m : Int} (hp : p ≠ []) (hm : Mod m) : ∃ v p' s, 0 ≤ v ∧ v < m ∧ p' ≠ [] ∧ m__law_draw ca [.mu true (.lst (iz p)), .val (.int m)] = .ok (.d (.int v)) [.mu true (.lst (iz p')), .val (.int m), s] := by
  obtain ⟨c, rest, rfl⟩ := List.exists_cons_of_ne_nil hp
  have h0 := hm.pos
  cases rest with
  | nil =>
    refine ⟨(c + 1) % m, [c + 1], .no, Int.emod_nonneg _ (by omega), Int.emod_lt_of_pos _ h0, by simp, ?_⟩
    simp [m__law_draw, b__law_draw, atI0, ixN0, h0]
  | cons x rest =>
    have hd := hm.div x
    by_cases hq : x / m = 0
    · refine ⟨x % m, (c + 1) :: rest, .val (.int x), Int.emod_nonneg _ (by omega), Int.emod_lt_of_pos _ h0, by simp, ?_⟩
      have n1 : ¬ ((rest.length : Int) + 1 + 1 = 1) := by omega
      simp [m__law_draw, b__law_draw, atI0, atI1, ixN0, ixN1, seqI1, h0, hd, hq, n1]
    · refine ⟨x % m, (c + 1) :: (x / m) :: rest, .val (.int x), Int.emod_nonneg _ (by omega), Int.emod_lt_of_pos _ h0, by simp, ?_⟩
      have n1 : ¬ ((rest.length : Int) + 1 + 1 = 1) := by omega
      simp [m__law_draw, b__law_draw, atI0, atI1, ixN0, ixN1, h0, hd, hq, n1]
theorem run_pool (ns : List Int) (hl : ns.length ≤ 1000) : ∃ ρ, m__law_pool ca [.val (.rls (iz ns))] = .ok (.fr (.lst (iz (0 :: (ns.take 63).map fun i => absI i % T60)))) ρ := by
  have h60 : 0 < T60 := by decide
  have hl' : (ns.take 63).length ≤ 1000 := by rw [List.length_take]; omega
  have c := compL_all (vs := [1]) (mg := setS 1) (me := E1__law_pool ca) (ρ0 := [.val (.rls (iz ns)), .no]) Dv.int (fun p => .int (absI p % T60))
    (fun x => [.val (.rls (iz ns)), .val (.int x)]) (ns.take 63) [] [.val (.rls (iz ns)), .no] rfl rfl (fun p hp => by
      refine ⟨rfl, ?_, rfl, rfl⟩
      simp only [E1__law_pool]
      simp only [x_sub, run_bR, x_b2, x_eB, x_aC, x_aN, x_eV, x_eC]
      simp [-x_pPow_0, pow60, h60, absI]) (by
        rw [List.length_nil, Nat.zero_add]
        exact szlt (by omega))
  have e2 : ((ns.take 63).map fun p => Dv.int (absI p % T60)) = iz ((ns.take 63).map fun i => absI i % T60) := by
    unfold iz
    rw [List.map_map]; rfl
  rw [e2, List.nil_append] at c
  have hz : 1 + min 63 ns.length ≤ sizeLine := szle (by omega)
  have c' : compL [1] (setS 1) (pure true) (E1__law_pool ca) (iz (ns.take 63)) [] [.val (.rls (iz ns)), .no] = _ := c
  simp [m__law_pool, b__law_pool, cut63, walk?, items?, c', hz]
theorem Sh.same {xs : List Dv} (h : Sh xs) : m__law_same ca [.val (.lst xs), .val (.lst xs)] = .ok (.d (.bl true)) [.val (.lst xs), .val (.lst xs)] := by
  have k1 : isDt (.lst xs) = true := by simpa [isDt] using h.h1
  have k2 : dpD (.lst xs) ≤ 60 := by simpa [dpD] using h.h2
  have k3 : (toPy (.lst xs)).showable = true := by simpa [toPy, PyData.showable] using h.h3
  have k4 : (toPy (.lst xs)).bulk ≤ 8000 := by simpa [toPy, PyData.bulk] using h.h4
  have a1 := eqable_of k1 k2
  have a2 := eqv_toPy k1
  have a3 := okRepr_of k1 k2 k3 k4
  simp [m__law_same, b__law_same, a1, a2, a3]
theorem Sh.sameT {xs : List Dv} (h : Sh xs) : m__law_same ca [.val (.tup xs), .val (.tup xs)] = .ok (.d (.bl true)) [.val (.tup xs), .val (.tup xs)] := by
  have k1 : isDt (.tup xs) = true := by simpa [isDt] using h.h1
  have k2 : dpD (.tup xs) ≤ 60 := by simpa [dpD] using h.h2
  have k3 : (toPy (.tup xs)).showable = true := by simpa [toPy, PyData.showable] using h.h3
  have k4 : (toPy (.tup xs)).bulk ≤ 8000 := by simpa [toPy, PyData.bulk] using h.h4
  have a1 := eqable_of k1 k2
  have a2 := eqv_toPy k1
  have a3 := okRepr_of k1 k2 k3 k4
  simp [m__law_same, b__law_same, a1, a2, a3]
theorem run_check_number {n lo hi : Int} (h1 : lo ≤ n) (h2 : n ≤ hi) : m_check_number ca [.val (.int n), .val (.int lo), .val (.int hi)] = .ok (.d .non) [.val (.int n), .val (.int lo), .val (.int hi)] := by
  have a : ¬ n < lo := by omega
  have b : ¬ hi < n := by omega
  simp [m_check_number, b_check_number, a, b]
theorem exc_check_number {n lo hi : Int} (h : n < lo ∨ hi < n) : ∃ ρ, m_check_number ca [.val (.int n), .val (.int lo), .val (.int hi)] = .exc ⟨"NumberError", some [("number", .int n)]⟩ ρ := by
  by_cases a : n < lo
  · simp [m_check_number, b_check_number, a]
  · have b : hi < n := by omega
    simp [m_check_number, b_check_number, a, b]
theorem run_check_size {n lo hi : Int} (h1 : lo ≤ n) (h2 : n ≤ hi) : m_check_size ca [.val (.int n), .val (.int lo), .val (.int hi)] = .ok (.d .non) [.val (.int n), .val (.int lo), .val (.int hi)] := by
  have a : ¬ n < lo := by omega
  have b : ¬ hi < n := by omega
  simp [m_check_size, b_check_size, a, b]
theorem exc_check_size {n lo hi : Int} (h : n < lo ∨ hi < n) : ∃ ρ, m_check_size ca [.val (.int n), .val (.int lo), .val (.int hi)] = .exc ⟨"SizeError", some [("count", .int n)]⟩ ρ := by
  by_cases a : n < lo
  · simp [m_check_size, b_check_size, a]
  · have b : hi < n := by omega
    simp [m_check_size, b_check_size, a, b]
theorem run_row {b a : Int} : ∃ ρ, m_let_shifts ca [.val (.str "rowwise"), .val (.int b), .val (.int a)] = .ok (.d (.tup [.int (1 - a), .int (b - 1)])) ρ := by
  simp [m_let_shifts, b_let_shifts]
theorem sne1 : ¬ Str.ofString "leaning" = Str.ofString "rowwise" := by decide +kernel
theorem sne2 : ¬ Str.ofString "leaning" = Str.ofString "rooted" := by decide +kernel
theorem run_lean {b a : Int} : ∃ ρ, m_let_shifts ca [.val (.str "leaning"), .val (.int b), .val (.int a)] = .ok (.d (.tup [.int (if b - a > 0 then b - a else 0), .int (b - 1)])) ρ := by
  simp [m_let_shifts, b_let_shifts, sne1, sne2]
end K41
end
section
set_option Elab.async false
set_option linter.all false
set_option maxRecDepth 100000
set_option maxHeartbeats 4000000
namespace K41
open PySem L2 P0
variable {ca : Nat → Addr}
def rz (L : List (Int × Int)) : List Dv := L.map fun p => .tup [.int p.1, .int p.2]
@[simp] theorem rz_length (L : List (Int × Int)) : (rz L).length = L.length := by simp [rz]
@[simp] theorem rz_append (L M : List (Int × Int)) : rz L ++ rz M = rz (L ++ M) := by simp [rz]
@[simp] theorem rz_cons (p : Int × Int) (L : List (Int × Int)) : rz (p :: L) = .tup [.int p.1, .int p.2] :: rz L := rfl
theorem rz_at (L : List (Int × Int)) {i : Nat} {p : Int × Int} (h : L[i]? = some p) : atI (rz L) (i : Int) = some (.tup [.int p.1, .int p.2]) := by
  refine atI_get ?_
  unfold rz
  rw [List.getElem?_map, h]; rfl
inductive Sq : Dv → List (Int × Int) → Prop
  | lst (L) : Sq (.lst (rz L)) L
  | tup (L) : Sq (.tup (rz L)) L
theorem Sq.ix {d : Dv} {L : List (Int × Int)} (h : Sq d L) (i : Int) (ρ : VE) : pIx d (.int i) ρ = bR (M.opt (atI (rz L) i) ρ) fun v => pure (.d v) := by cases h <;> simp
theorem Sq.len {d : Dv} {L : List (Int × Int)} (h : Sq d L) (ρ : VE) : qLen [d] ρ = .ok (.d (.int L.length)) ρ := by cases h <;> simp
theorem Sq.walk {d : Dv} {L : List (Int × Int)} (h : Sq d L) : walk? d = some (rz L) := by cases h <;> rfl
def leanOk (p q : Int × Int) : Bool := decide ((if p.2 - q.2 > 0 then p.2 - q.2 else 0) ≤ q.1 - p.1) && decide (q.1 - p.1 ≤ p.2 - 1)
def rowOk (p q : Int × Int) : Bool := decide (1 - q.2 ≤ q.1 - p.1) && decide (q.1 - p.1 ≤ p.2 - 1)
def fnl (ok : Int × Int → Int × Int → Bool) : Nat → List (Int × Int) → Option Nat
  | k, p :: q :: r => if ok p q then fnl ok (k + 1) (q :: r) else some k
  | _, _ => none
def optI : Option Nat → Dv
  | some i => .int i
  | none => .non
structure Rule (ca : Nat → Addr) (s : Str) (lo hi : Int → Int → Int) (ok : Int × Int → Int × Int → Bool) : Prop where
  run : ∀ b a, ∃ ρ, m_let_shifts ca [.val (.str s), .val (.int b), .val (.int a)] = .ok (.d (.tup [.int (lo b a), .int (hi b a)])) ρ
  ok : ∀ p q, ok p q = (decide (lo p.2 q.2 ≤ q.1 - p.1) && decide (q.1 - p.1 ≤ hi p.2 q.2))
theorem rule_row : Rule ca "rowwise" (fun _ a => 1 - a) (fun b _ => b - 1) rowOk := ⟨fun b a => run_row, fun _ _ => rfl⟩
theorem rule_lean : Rule ca "leaning" (fun b a => if b - a > 0 then b - a else 0) (fun b _ => b - 1) leanOk := ⟨fun b a => run_lean, fun _ _ => rfl⟩
theorem fnl_step {s : Str} {lo hi : Int → Int → Int} {ok : Int × Int → Int × Int → Bool} (R : Rule ca s lo hi ok) {d : Dv} {L : List (Int × Int)} (h : Sq d L) {k : Nat} {p q : Int × Int} (hp : L[k]? = some p) (hq : L[k + 1]? = some q) {s3 s4 s5 s6 s7 s8 : Sl}
    (h3 : isIo (some s3) = false) (h4 : isIo (some s4) = false) (h5 : isIo (some s5) = false) (h6 : isIo (some s6) = false) (h7 : isIo (some s7) = false) (h8 : isIo (some s8) = false) :
    L1_first_not_let ca [.val (.str s), .val d, .val (.int (k + 1)), s3, s4, s5, s6, s7, s8] =
      .ok (if ok p q = true then .nx else .rt (.d (.int (k + 1)))) [.val (.str s), .val d, .val (.int (k + 1)), .val (.int p.1), .val (.int p.2), .val (.int q.1), .val (.int q.2), .val (.int (lo p.2 q.2)), .val (.int (hi p.2 q.2))] := by
  obtain ⟨ρ, e⟩ := R.run p.2 q.2
  have a1 := rz_at L hp
  have a2 := rz_at L hq
  have q1 : ((k + 1 : Nat) : Int) = (k : Int) + 1 := by omega
  rw [q1] at a2
  rw [R.ok]
  by_cases c1 : lo p.2 q.2 ≤ q.1 - p.1
  · have c1' : ¬ q.1 - p.1 < lo p.2 q.2 := by omega
    by_cases c2 : q.1 - p.1 ≤ hi p.2 q.2
    · have c2' : ¬ hi p.2 q.2 < q.1 - p.1 := by omega
      simp [L1_first_not_let, h.ix, a1, a2, e, h3, h4, h5, h6, h7, h8, c1, c2, c1', c2']
    · have c2' : hi p.2 q.2 < q.1 - p.1 := by omega
      simp [L1_first_not_let, h.ix, a1, a2, e, h3, h4, h5, h6, h7, h8, c1, c2, c1', c2']
  · have c1' : q.1 - p.1 < lo p.2 q.2 := by omega
    simp [L1_first_not_let, h.ix, a1, a2, e, h3, h4, h5, h6, h7, h8, c1, c1']
theorem fnl_loop {s : Str} {lo hi : Int → Int → Int} {ok : Int × Int → Int × Int → Bool} (R : Rule ca s lo hi ok) {d : Dv} {L : List (Int × Int)} (h : Sq d L) : ∀ (r : List (Int × Int)) (k : Nat) (s2 s3 s4 s5 s6 s7 s8 : Sl), L.drop k = r →
    isIo (some s2) = false → isIo (some s3) = false → isIo (some s4) = false → isIo (some s5) = false → isIo (some s6) = false → isIo (some s7) = false → isIo (some s8) = false →
    ∃ ρ, forL (setS 2) (L1_first_not_let ca) (rng (k + 1) (r.length - 1)) [.val (.str s), .val d, s2, s3, s4, s5, s6, s7, s8] = .ok (match fnl ok (k + 1) r with | some j => .rt (.d (.int j)) | none => .nx) ρ
  | [], k, s2, s3, s4, s5, s6, s7, s8, _, _, _, _, _, _, _, _ => ⟨_, rfl⟩
  | [p], k, s2, s3, s4, s5, s6, s7, s8, _, _, _, _, _, _, _, _ => ⟨_, rfl⟩
  | p :: q :: r, k, s2, s3, s4, s5, s6, s7, s8, hd, h2, h3, h4, h5, h6, h7, h8 => by
    have hp : L[k]? = some p := by have := congrArg (fun l => l[0]?) hd; simpa using this
    have hq : L[k + 1]? = some q := by have := congrArg (fun l => l[1]?) hd; simpa using this
    have st := fnl_step R h hp hq h3 h4 h5 h6 h7 h8
    have q1 : ((k + 1 : Nat) : Int) = (k : Int) + 1 := by omega
    rw [show (p :: q :: r).length - 1 = (q :: r).length - 1 + 1 by simp, rng_succ]
    rw [fnl]
    by_cases c : ok p q = true
    · rw [if_pos c] at st
      obtain ⟨ρ, ih⟩ := fnl_loop R h (q :: r) (k + 1) (.val (.int (k + 1))) (.val (.int p.1)) (.val (.int p.2)) (.val (.int q.1)) (.val (.int q.2)) (.val (.int (lo p.2 q.2))) (.val (.int (hi p.2 q.2))) (by rw [← List.drop_drop, hd]; rfl) rfl rfl rfl rfl rfl rfl rfl
      rw [q1] at ih
      rw [forL_nx (run_setS (by simp) (by simp [h2])) st, if_pos c]
      exact ⟨ρ, ih⟩
    · rw [if_neg c] at st
      rw [forL_rt (run_setS (by simp) (by simp [h2])) st, if_neg c]
      show ∃ ρ, _ = P0.R.ok (Fl.rt (RV.d (Dv.int ((k + 1 : Nat) : Int)))) ρ
      rw [q1]
      exact ⟨_, rfl⟩
theorem run_fnl {s : Str} {lo hi : Int → Int → Int} {ok : Int × Int → Int × Int → Bool} (R : Rule ca s lo hi ok) {d : Dv} {L : List (Int × Int)} (h : Sq d L) (hl : L.length ≤ 1000) (h0 : 1 ≤ L.length) : ∃ ρ, m_first_not_let ca [.val (.str s), .val d] = .ok (.d (optI (fnl ok 1 L))) ρ := by
  obtain ⟨ρ, e⟩ := fnl_loop R h L 0 .no .no .no .no .no .no .no rfl rfl rfl rfl rfl rfl rfl rfl
  have g : rng 1 ((L.length : Int) - 1).toNat = rng ((0 : Nat) + 1) (L.length - 1) := by
    congr 1
    omega
  have g2 : ((L.length : Int) - 1).toNat = L.length - 1 := by omega
  have e' : forL (setS 2) (L1_first_not_let ca) (rng 1 (L.length - 1)) [.val (.str s), .val d, .no, .no, .no, .no, .no, .no, .no] = _ := e
  have r1 : R62 (L.length : Int) := r62n (by omega)
  cases c : fnl ok 1 L with
  | none =>
    rw [c] at e'
    simp [m_first_not_let, b_first_not_let, h.len, g2, e', r1, optI]
  | some j =>
    rw [c] at e'
    simp [m_first_not_let, b_first_not_let, h.len, g2, e', r1, optI]
end K41
end
section
set_option Elab.async false
set_option linter.all false
set_option maxRecDepth 100000
set_option maxHeartbeats 4000000
namespace K41
open PySem L2 P0
variable {ca : Nat → Addr}
@[simp] theorem mx_0 : Str.ofString "RimmachinesError" ∈ exCls := by decide +kernel
@[simp] theorem isa_0_0 : isaT exCls exPrs (Str.ofString "RimmachinesError") (Str.ofString "RimmachinesError") = some true := by decide +kernel
@[simp] theorem isa_0_1 : isaT exCls exPrs (Str.ofString "RimmachinesError") (Str.ofString "NumberError") = some false := by decide +kernel
@[simp] theorem isa_0_2 : isaT exCls exPrs (Str.ofString "RimmachinesError") (Str.ofString "SizeError") = some false := by decide +kernel
@[simp] theorem isa_0_3 : isaT exCls exPrs (Str.ofString "RimmachinesError") (Str.ofString "LaneError") = some false := by decide +kernel
@[simp] theorem isa_0_4 : isaT exCls exPrs (Str.ofString "RimmachinesError") (Str.ofString "WordError") = some false := by decide +kernel
@[simp] theorem mx_1 : Str.ofString "NumberError" ∈ exCls := by decide +kernel
@[simp] theorem isa_1_0 : isaT exCls exPrs (Str.ofString "NumberError") (Str.ofString "RimmachinesError") = some true := by decide +kernel
@[simp] theorem isa_1_1 : isaT exCls exPrs (Str.ofString "NumberError") (Str.ofString "NumberError") = some true := by decide +kernel
@[simp] theorem isa_1_2 : isaT exCls exPrs (Str.ofString "NumberError") (Str.ofString "SizeError") = some false := by decide +kernel
@[simp] theorem isa_1_3 : isaT exCls exPrs (Str.ofString "NumberError") (Str.ofString "LaneError") = some false := by decide +kernel
@[simp] theorem isa_1_4 : isaT exCls exPrs (Str.ofString "NumberError") (Str.ofString "WordError") = some false := by decide +kernel
@[simp] theorem mx_2 : Str.ofString "SizeError" ∈ exCls := by decide +kernel
@[simp] theorem isa_2_0 : isaT exCls exPrs (Str.ofString "SizeError") (Str.ofString "RimmachinesError") = some true := by decide +kernel
@[simp] theorem isa_2_1 : isaT exCls exPrs (Str.ofString "SizeError") (Str.ofString "NumberError") = some false := by decide +kernel
@[simp] theorem isa_2_2 : isaT exCls exPrs (Str.ofString "SizeError") (Str.ofString "SizeError") = some true := by decide +kernel
@[simp] theorem isa_2_3 : isaT exCls exPrs (Str.ofString "SizeError") (Str.ofString "LaneError") = some false := by decide +kernel
@[simp] theorem isa_2_4 : isaT exCls exPrs (Str.ofString "SizeError") (Str.ofString "WordError") = some false := by decide +kernel
@[simp] theorem mx_3 : Str.ofString "LaneError" ∈ exCls := by decide +kernel
@[simp] theorem isa_3_0 : isaT exCls exPrs (Str.ofString "LaneError") (Str.ofString "RimmachinesError") = some true := by decide +kernel
@[simp] theorem isa_3_1 : isaT exCls exPrs (Str.ofString "LaneError") (Str.ofString "NumberError") = some false := by decide +kernel
@[simp] theorem isa_3_2 : isaT exCls exPrs (Str.ofString "LaneError") (Str.ofString "SizeError") = some false := by decide +kernel
@[simp] theorem isa_3_3 : isaT exCls exPrs (Str.ofString "LaneError") (Str.ofString "LaneError") = some true := by decide +kernel
@[simp] theorem isa_3_4 : isaT exCls exPrs (Str.ofString "LaneError") (Str.ofString "WordError") = some false := by decide +kernel
@[simp] theorem mx_4 : Str.ofString "WordError" ∈ exCls := by decide +kernel
@[simp] theorem isa_4_0 : isaT exCls exPrs (Str.ofString "WordError") (Str.ofString "RimmachinesError") = some true := by decide +kernel
@[simp] theorem isa_4_1 : isaT exCls exPrs (Str.ofString "WordError") (Str.ofString "NumberError") = some false := by decide +kernel
@[simp] theorem isa_4_2 : isaT exCls exPrs (Str.ofString "WordError") (Str.ofString "SizeError") = some false := by decide +kernel
@[simp] theorem isa_4_3 : isaT exCls exPrs (Str.ofString "WordError") (Str.ofString "LaneError") = some false := by decide +kernel
@[simp] theorem isa_4_4 : isaT exCls exPrs (Str.ofString "WordError") (Str.ofString "WordError") = some true := by decide +kernel
@[simp] theorem fx_LaneError : (Str.ofString "LaneError", Str.ofString "at") ∈ exFld := by decide +kernel
@[simp] theorem fx_NumberError : (Str.ofString "NumberError", Str.ofString "number") ∈ exFld := by decide +kernel
@[simp] theorem fx_SizeError : (Str.ofString "SizeError", Str.ofString "count") ∈ exFld := by decide +kernel
@[simp] theorem fx_WordError : (Str.ofString "WordError", Str.ofString "at") ∈ exFld := by decide +kernel
@[simp] theorem sne3 : ¬ Str.ofString "stretches" = Str.ofString "height" := by decide +kernel
@[simp] theorem sne4 : ¬ Str.ofString "height" = Str.ofString "stretches" := by decide +kernel
structure Fits (L : List (Int × Int)) : Prop where
  l1 : 1 ≤ L.length
  l2 : L.length ≤ 60
  far : ∀ p ∈ L, -4000 ≤ p.1 ∧ p.1 ≤ 4000 ∧ 1 ≤ p.2 ∧ p.2 ≤ 60
  row : fnl rowOk 1 L = none
def norm (L : List (Int × Int)) : List (Int × Int) := L.map fun p => (p.1 - (L.headD (0, 0)).1, p.2)
def laneD (ca : Nat → Addr) (L : List (Int × Int)) : Dv := .ins (ca 5) [("stretches", .tup (rz L)), ("height", .int L.length)]
theorem init_loop {s0 s1 s4 s5 : Sl} : ∀ (L : List (Int × Int)) (s2 s3 : Sl), (∀ p ∈ L, -4000 ≤ p.1 ∧ p.1 ≤ 4000 ∧ 1 ≤ p.2 ∧ p.2 ≤ 60) → isIo (some s2) = false → isIo (some s3) = false →
    ∃ s2' s3', isIo (some s2') = false ∧ isIo (some s3') = false ∧ forL (gT 2 (gC (setS 2) (gC (setS 3) gN))) (L1_Lane_init ca) (rz L) [s0, s1, s2, s3, s4, s5] = .ok .nx [s0, s1, s2', s3', s4, s5]
  | [], s2, s3, _, h2, h3 => ⟨s2, s3, h2, h3, rfl⟩
  | p :: L, s2, s3, h, h2, h3 => by
    obtain ⟨a1, a2, a3, a4⟩ := h p List.mem_cons_self
    obtain ⟨s2', s3', k2, k3, ih⟩ := init_loop L (.val (.int p.1)) (.val (.int p.2)) (fun q hq => h q (List.mem_cons_of_mem _ hq)) rfl rfl
    refine ⟨s2', s3', k2, k3, ?_⟩
    have e1 := run_check_number (ca := ca) a1 a2
    have e2 := run_check_number (ca := ca) a3 a4
    have g : gT 2 (gC (setS 2) (gC (setS 3) gN)) (.tup [.int p.1, .int p.2]) [s0, s1, s2, s3, s4, s5] = .ok () [s0, s1, .val (.int p.1), .val (.int p.2), s4, s5] := by simp [h2, h3]
    have b : L1_Lane_init ca [s0, s1, .val (.int p.1), .val (.int p.2), s4, s5] = .ok .nx [s0, s1, .val (.int p.1), .val (.int p.2), s4, s5] := by
      simp [L1_Lane_init, e1, e2]
    rw [rz_cons, forL_nx g b]
    exact ih
theorem run_Lane_init {d : Dv} {L : List (Int × Int)} (h : Sq d L) (f : Fits L) : ∃ ρ, m_Lane_init ca [.mu true (.ins (ca 5) []), .val d] = .ok (.d .non) (.mu true (laneD ca (norm L)) :: ρ) := by
  have hl1 := f.l1
  have hl2 := f.l2
  have e1 := run_check_size (ca := ca) (n := L.length) (lo := 1) (hi := 60) (by omega) (by omega)
  obtain ⟨s2, s3, k2, k3, e2⟩ := init_loop (ca := ca) (s0 := .mu true (.ins (ca 5) [])) (s1 := .val d) (s4 := .no) (s5 := .no) L .no .no f.far rfl rfl
  obtain ⟨ρ, e3⟩ := run_fnl (rule_row (ca := ca)) h (by omega) hl1
  rw [f.row] at e3
  obtain ⟨p, r, rfl⟩ : ∃ p r, L = p :: r := by
    cases L with
    | nil => simp at hl1
    | cons p r => exact ⟨p, r, rfl⟩
  have c := compL_all (vs := [2, 3]) (mg := gT 2 (gC (setS 2) (gC (setS 3) gN))) (me := E1_Lane_init ca)
    (ρ0 := [.mu true (.ins (ca 5) []), .val d, .no, .no, .val .non, .val (.int p.1)]) (fun q : Int × Int => Dv.tup [.int q.1, .int q.2]) (fun q => .tup [.int (q.1 - p.1), .int q.2])
    (fun q => [.mu true (.ins (ca 5) []), .val d, .val (.int q.1), .val (.int q.2), .val .non, .val (.int p.1)]) (p :: r) [] [.mu true (.ins (ca 5) []), .val d, s2, s3, .val .non, .val (.int p.1)] (by simp [k2, k3]) rfl
    (fun q hq => ⟨by simp, by simp [E1_Lane_init], rfl, rfl⟩) (by rw [List.length_nil, Nat.zero_add]; exact szlt (by omega))
  have c' : compL [2, 3] (gT 2 (gC (setS 2) (gC (setS 3) gN))) (pure true) (E1_Lane_init ca) (rz (p :: r)) [] [.mu true (.ins (ca 5) []), .val d, s2, s3, .val .non, .val (.int p.1)] = .ok (rz (norm (p :: r))) [.mu true (.ins (ca 5) []), .val d, .no, .no, .val .non, .val (.int p.1)] := by
    refine Eq.trans c ?_
    rw [List.nil_append]
    congr 1
    unfold rz norm
    rw [List.map_map]; rfl
  have a0 := rz_at (p :: r) (i := 0) rfl
  have nl : (norm (p :: r)).length = r.length + 1 := by simp [norm]
  simp at e1 e2 c' a0
  simp [m_Lane_init, b_Lane_init, h.len, h.walk, h.ix, atI0, e1, e2, e3, optI, a0, FT, c', laneD, nl]
theorem look_st (L : List (Int × Int)) (ρ : VE) : pFld (FT ca) "stretches" (laneD ca L) ρ = .ok (.d (.tup (rz L))) ρ := by simp [laneD, FT]
theorem run_check_staircase {L : List (Int × Int)} (h1 : 1 ≤ L.length) (h2 : L.length ≤ 60) (h : fnl leanOk 1 L = none) : ∃ ρ, m_check_staircase ca [.val (laneD ca L)] = .ok (.d .non) ρ := by
  obtain ⟨ρ, e⟩ := run_fnl (rule_lean (ca := ca)) (Sq.tup L) (by omega) h1
  rw [h] at e
  simp [m_check_staircase, b_check_staircase, look_st, e, optI]
theorem exc_check_staircase {L : List (Int × Int)} {k : Nat} (h1 : 1 ≤ L.length) (h2 : L.length ≤ 60) (h : fnl leanOk 1 L = some k) : ∃ ρ, m_check_staircase ca [.val (laneD ca L)] = .exc ⟨"LaneError", some [("at", .int k)]⟩ ρ := by
  obtain ⟨ρ, e⟩ := run_fnl (rule_lean (ca := ca)) (Sq.tup L) (by omega) h1
  rw [h] at e
  simp [m_check_staircase, b_check_staircase, look_st, e, optI]
def rowsZ (S : List (Nat × Nat)) : List (Int × Int) := S.map fun p => ((p.1 : Int), (p.2 : Int) - p.1)
def pzs (l : List (List Nat)) : List Dv := l.map fun w => .str (cd w)
@[simp] theorem pzs_length (l : List (List Nat)) : (pzs l).length = l.length := by simp [pzs]
@[simp] theorem pzs_snoc (l : List (List Nat)) (w : List Nat) : pzs l ++ [.str (cd w)] = pzs (l ++ [w]) := by simp [pzs]
theorem strs_pzs (l : List (List Nat)) : strs? (pzs l) = some (l.map cd) := by
  induction l with
  | nil => rfl
  | cons a l ih =>
    show strs? (.str (cd a) :: pzs l) = _
    rw [x_strs_q_1, ih]; rfl
theorem join_pzs (l : List (List Nat)) (h : l.flatten.length ≤ 1000000) (ρ : VE) : pJoin (cd []) (.lst (pzs l)) ρ = .ok (.d (.str (cd l.flatten))) ρ := by
  have e : ((l.map cd).map (·.length)).sum = l.flatten.length := by
    rw [List.map_map, List.length_flatten]
    congr 1
  have z : ((l.map cd).map (·.length)).sum + (l.map cd).length * (cd []).length ≤ 16777216 := by
    rw [e, cd_len, List.length_nil, Nat.mul_zero]
    omega
  rw [x_pJoin]
  simp only [items?, run_bR, run_opt_some, bR_ok, strs_pzs, run_grd', z, if_true, cd_join]
  rfl
theorem lean_Ch : ∀ (r : List (Nat × Nat)) (p : Nat × Nat) (m k : Nat), Ch p r m → fnl leanOk k (rowsZ (p :: r)) = none
  | [], p, m, k, _ => rfl
  | q :: r, p, m, k, h => by
    have ih := lean_Ch r q m (k + 1) h.2.2.2.2
    have a1 := h.1
    have a2 := h.2.1
    have a3 := h.2.2.1
    have a4 := h.2.2.2.1
    show (if leanOk _ _ = true then fnl leanOk (k + 1) (rowsZ (q :: r)) else some k) = none
    rw [if_pos, ih]
    unfold leanOk
    simp only [Bool.and_eq_true, decide_eq_true_eq]
    constructor
    · split <;> omega
    · omega
theorem Stair.lean {S : List (Nat × Nat)} {m : Nat} (h : Stair S m) (k : Nat) : fnl leanOk k (rowsZ S) = none := by
  obtain ⟨e, r, rfl, c⟩ := h.ex
  exact lean_Ch r _ m k c
variable {S : List (Nat × Nat)} {m : Nat}
theorem row_of_lean : ∀ (L : List (Int × Int)) (k : Nat), (∀ p ∈ L, 1 ≤ p.2) → fnl leanOk k L = none → fnl rowOk k L = none
  | [], _, _, _ => rfl
  | [p], _, _, _ => rfl
  | p :: q :: r, k, h, e => by
    rw [fnl] at e ⊢
    split at e
    · rename_i c
      have hq := h q (by simp)
      have : rowOk p q = true := by
        unfold leanOk at c
        unfold rowOk
        simp only [Bool.and_eq_true, decide_eq_true_eq] at c ⊢
        obtain ⟨c1, c2⟩ := c
        refine ⟨?_, c2⟩
        split at c1 <;> omega
      rw [if_pos this]
      exact row_of_lean (q :: r) (k + 1) (fun x hx => h x (List.mem_cons_of_mem _ hx)) e
    · cases e
theorem Stair.rows (h : Stair S m) : ∀ p ∈ rowsZ S, 0 ≤ p.1 ∧ p.1 + p.2 ≤ m ∧ 1 ≤ p.2 := fun p hp => by
  obtain ⟨x, hx, rfl⟩ := List.mem_map.mp hp
  have := h.all x hx
  dsimp only
  omega
theorem Stair.fits (h : Stair S m) (hl : S.length ≤ 60) (hm : m ≤ 60) : Fits (rowsZ S) := by
  have := h.pos
  refine ⟨by simp [rowsZ]; omega, by simp [rowsZ]; omega, fun p hp => ?_, row_of_lean _ _ (fun p hp => (h.rows p hp).2.2) (h.lean 1)⟩
  have := h.rows p hp
  omega
theorem Stair.norm (h : Stair S m) : norm (rowsZ S) = rowsZ S := by
  obtain ⟨e, r, rfl, c⟩ := h.ex
  unfold K41.norm rowsZ
  rw [List.map_map]
  apply List.map_congr_left
  intro x hx
  simp
end K41
end
section
set_option Elab.async false
set_option linter.all false
set_option maxRecDepth 100000
set_option maxHeartbeats 4000000
namespace K41
open PySem L2 P0
variable {ca : Nat → Addr}
theorem Ch.snoc : ∀ {r : List (Nat × Nat)} {p : Nat × Nat} {m : Nat} {f e : Nat}, Ch p r m → (∀ x, (p :: r)[r.length]? = some x → x.1 ≤ f) → f < m → m ≤ e → Ch p (r ++ [(f, e)]) e
  | [], p, m, f, e, h, h1, h2, h3 => by
    have a := h.1
    have b := h.2
    have c := h1 p rfl
    exact ⟨a, c, by show f < p.2; omega, by show p.2 ≤ e; omega, by show f < e; omega, rfl⟩
  | q :: r, p, m, f, e, h, h1, h2, h3 => ⟨h.1, h.2.1, h.2.2.1, h.2.2.2.1, Ch.snoc h.2.2.2.2 (fun x hx => h1 x (by simpa using hx)) h2 h3⟩
theorem Stair.snoc {T : List (Nat × Nat)} {f e f' e' : Nat} (h : Stair (T ++ [(f, e)]) e) (h1 : f ≤ f') (h2 : f' < e) (h3 : e ≤ e') : Stair ((T ++ [(f, e)]) ++ [(f', e')]) e' := by
  obtain ⟨a, r, hr, c⟩ := h.ex
  rw [hr]
  refine ⟨a, r ++ [(f', e')], rfl, c.snoc (fun x hx => ?_) h2 h3⟩
  have : (T ++ [(f, e)])[T.length]? = some (f, e) := by rw [List.getElem?_append_right (Nat.le_refl _), Nat.sub_self]; rfl
  have hl : T.length = r.length := by have := congrArg List.length hr; simpa using this
  rw [hr, hl, hx] at this
  have := Option.some.inj this
  subst this
  exact h1
theorem rowsZ_snoc (S : List (Nat × Nat)) (f e : Nat) : rz (rowsZ S) ++ [.tup [.int (f : Int), .int ((e : Int) - f)]] = rz (rowsZ (S ++ [(f, e)])) := by simp [rz, rowsZ]
theorem st_turn {p : List Int} {T : List (Nat × Nat)} {f e : Nat} {s1 s5 s6 s7 : Sl} (hp : p ≠ []) (h : Stair (T ++ [(f, e)]) e) (he : e ≤ 60) (hT : T.length ≤ 1000) (h6 : isIo (some s6) = false) (h7 : isIo (some s7) = false) :
    ∃ (p' : List Int) (f' e' : Nat) (s6' s7' : Sl), p' ≠ [] ∧ Stair ((T ++ [(f, e)]) ++ [(f', e')]) e' ∧ e' ≤ 60 ∧ e' ≤ e + 2 ∧ isIo (some s6') = false ∧ isIo (some s7') = false ∧
      L1__law_stairs ca [.mu true (.lst (iz p)), s1, .val (.int f), .val (.int ((e : Int) - f)), .mu false (.lst (rz (rowsZ (T ++ [(f, e)])))), s5, s6, s7] =
        .ok .nx [.mu true (.lst (iz p')), s1, .val (.int f'), .val (.int ((e' : Int) - f')), .mu false (.lst (rz (rowsZ ((T ++ [(f, e)]) ++ [(f', e')])))), s5, s6', s7'] := by
  have hlt := (h.all (f, e) (by simp)).1
  dsimp only at hlt
  obtain ⟨v, p1, s, v0, v1, n1, e1⟩ := run_draw (ca := ca) (m := (e : Int) - f) hp (Mod.of (by omega) (by omega))
  obtain ⟨w, p2, s', w0, w1, n2, e2⟩ := run_draw (ca := ca) (m := 3) n1 (Mod.of (by decide) (by decide))
  obtain ⟨f', hf⟩ : ∃ f' : Nat, (f' : Int) = f + v := ⟨(f + v).toNat, by omega⟩
  obtain ⟨e', hE⟩ : ∃ e' : Nat, (e' : Int) = if 60 < (f : Int) + ((e : Int) - f) + w then 60 else (f : Int) + ((e : Int) - f) + w := ⟨(if 60 < (f : Int) + ((e : Int) - f) + w then 60 else (f : Int) + ((e : Int) - f) + w).toNat, by split <;> omega⟩
  have z : (rz (rowsZ (T ++ [(f, e)]))).length < sizeLine := szlt (by simp [rowsZ]; omega)
  have z' : (rowsZ (T ++ [(f, e)])).length < sizeLine := by rw [rz_length] at z; exact z
  have sn := rowsZ_snoc (T ++ [(f, e)]) f' e'
  have q3 : (f : Int) + ((e : Int) - f) = e := by omega
  rw [q3] at hE
  refine ⟨p2, f', e', .val (.int v), .val (.int e'), n2, h.snoc (by omega) (by omega) (by split at hE <;> omega), by split at hE <;> omega, by split at hE <;> omega, rfl, rfl, ?_⟩
  generalize rowsZ (T ++ [(f, e)] ++ [(f', e')]) = K at *
  generalize rowsZ (T ++ [(f, e)]) = J at *
  rw [← sn, hf, hE]
  simp [L1__law_stairs, h6, h7, e1, e2, z', q3]
theorem st_loop {s1 : Sl} : ∀ (n : Nat) (lo : Int) (p : List Int) (T : List (Nat × Nat)) (f e : Nat) (s5 s6 s7 : Sl), p ≠ [] → Stair (T ++ [(f, e)]) e → e ≤ 60 → e ≤ 5 + 2 * T.length → T.length + n ≤ 1000 → isIo (some s5) = false → isIo (some s6) = false → isIo (some s7) = false →
    ∃ (p' : List Int) (S : List (Nat × Nat)) (m : Nat) (ρ : VE) (f' l' : Int), p' ≠ [] ∧ Stair S m ∧ m ≤ 60 ∧ S.length = T.length + 1 + n ∧ m + 2 ≤ 5 + 2 * S.length ∧
      forL (setS 5) (L1__law_stairs ca) (rng lo n) [.mu true (.lst (iz p)), s1, .val (.int f), .val (.int ((e : Int) - f)), .mu false (.lst (rz (rowsZ (T ++ [(f, e)])))), s5, s6, s7] =
        .ok .nx (.mu true (.lst (iz p')) :: s1 :: .val (.int f') :: .val (.int l') :: .mu false (.lst (rz (rowsZ S))) :: ρ)
  | 0, lo, p, T, f, e, s5, s6, s7, hp, h, he, he2, hl, _, _, _ => ⟨p, T ++ [(f, e)], e, [s5, s6, s7], f, (e : Int) - f, hp, h, he, by simp, by simp; omega, rfl⟩
  | n + 1, lo, p, T, f, e, s5, s6, s7, hp, h, he, he2, hl, h5, h6, h7 => by
    obtain ⟨p1, f', e', s6', s7', n1, h1, b1, b2, k6, k7, t⟩ := st_turn (ca := ca) (s1 := s1) (s5 := .val (.int lo)) hp h he (by omega) h6 h7
    obtain ⟨p2, S, m, ρ, g, l', n2, hS, hm, hl2, hb, ih⟩ := st_loop n (lo + 1) p1 (T ++ [(f, e)]) f' e' (.val (.int lo)) s6' s7' n1 h1 b1 (by simp; omega) (by simp; omega) rfl k6 k7
    refine ⟨p2, S, m, ρ, g, l', n2, hS, hm, by rw [hl2]; simp; omega, hb, ?_⟩
    have g : setS 5 (.int lo) [.mu true (.lst (iz p)), s1, .val (.int f), .val (.int ((e : Int) - f)), .mu false (.lst (rz (rowsZ (T ++ [(f, e)])))), s5, s6, s7] =
      .ok () [.mu true (.lst (iz p)), s1, .val (.int f), .val (.int ((e : Int) - f)), .mu false (.lst (rz (rowsZ (T ++ [(f, e)])))), .val (.int lo), s6, s7] := by simp [h5]
    rw [rng_succ, forL_nx g t]
    exact ih
theorem run_stairs {p : List Int} {rows : Int} (hp : p ≠ []) (h1 : 1 ≤ rows) (h2 : rows ≤ 60) :
    ∃ (p' : List Int) (S : List (Nat × Nat)) (m : Nat) (ρ : VE), p' ≠ [] ∧ Stair S m ∧ m ≤ 60 ∧ (S.length : Int) = rows ∧ m + 2 ≤ 5 + 2 * S.length ∧ m__law_stairs ca [.mu true (.lst (iz p)), .val (.int rows)] = .ok (.fr (.lst (rz (rowsZ S)))) (.mu true (.lst (iz p')) :: ρ) := by
  obtain ⟨v, p1, s, v0, v1, n1, e1⟩ := run_draw (ca := ca) (m := 5) hp (Mod.of (by decide) (by decide))
  obtain ⟨e, he⟩ : ∃ e : Nat, (e : Int) = 1 + v := ⟨(1 + v).toNat, by omega⟩
  have s0 : Stair ([] ++ [(0, e)]) e := ⟨e, [], rfl, ⟨by show 0 < e; omega, rfl⟩⟩
  obtain ⟨p2, S, m, ρ, g, l', n2, hS, hm, hl2, hb, ih⟩ := st_loop (ca := ca) (s1 := .val (.int rows)) (rows - 1).toNat 0 p1 [] 0 e .no .no .no n1 s0 (by omega) (by simp; omega) (by simp; omega) rfl rfl rfl
  have gg := rg1_ok (j := rows - 1) (r62 (by omega) (by omega))
  have ih' : forL (setS 5) (L1__law_stairs ca) (rng 0 (rows - 1).toNat) [.mu true (.lst (iz p1)), .val (.int rows), .val (.int 0), .val (.int ((e : Int) - (0 : Nat))), .mu false (.lst [.tup [.int 0, .int ((e : Int) - (0 : Nat))]]), .no, .no, .no] = _ := ih
  rw [show ((e : Int) - (0 : Nat)) = 1 + v by omega] at ih'
  simp only [List.length_nil] at hl2
  have hs : (S.length : Int) = rows := by omega
  generalize (rows - 1).toNat = k at *
  refine ⟨p2, S, m, .val (.int rows) :: .val (.int g) :: .val (.int l') :: .no :: ρ, n2, hS, hm, hs, hb, ?_⟩
  simp [m__law_stairs, b__law_stairs, -x_rg1, gg, e1, ih']
variable {S : List (Nat × Nat)} {m : Nat}
theorem isDts_rz (L : List (Int × Int)) : isDts (rz L) = true := by
  induction L with
  | nil => rfl
  | cons p L ih => simp [isDts, isDt, ih]
theorem dpDs_rz (L : List (Int × Int)) : dpDs (rz L) ≤ 1 := by
  induction L with
  | nil => exact Nat.zero_le _
  | cons p L ih => simp [dpDs, dpD]; omega
theorem show_rz (L : List (Int × Int)) (h : ∀ p ∈ L, (-(10 ^ 30) ≤ p.1 ∧ p.1 ≤ 10 ^ 30) ∧ (-(10 ^ 30) ≤ p.2 ∧ p.2 ≤ 10 ^ 30)) : PyData.showableAll (toPys (rz L)) = true := by
  induction L with
  | nil => rfl
  | cons p L ih =>
    have h1 := h p List.mem_cons_self
    have a := showI' h1.1.1 h1.1.2
    have b := showI' h1.2.1 h1.2.2
    have ih := ih fun q hq => h q (List.mem_cons_of_mem _ hq)
    rw [rz_cons]
    simp only [toPys, toPy, PyData.showableAll, PyData.showable] at ih ⊢
    simp only [PyData.showable] at a b
    simp [a, b, ih]
theorem bulk_rz (L : List (Int × Int)) : PyData.bulkAll (toPys (rz L)) = 3 * L.length := by
  induction L with
  | nil => rfl
  | cons p L ih =>
    rw [rz_cons]
    simp only [toPys, toPy, PyData.bulkAll, PyData.bulk, ih, List.length_cons]
    omega
theorem sh_rows (h : Stair S m) (hl : S.length ≤ 60) (hm : m ≤ 60) : Sh (rz (rowsZ S)) := by
  refine ⟨isDts_rz _, by have := dpDs_rz (rowsZ S); omega, show_rz _ fun p hp => ?_, by rw [bulk_rz]; simp [rowsZ]; omega⟩
  have := h.rows p hp
  omega
theorem strOk_cd {w : List Nat} (h : ∀ c ∈ w, c < 1000) : PyData.strOk (cd w) = true := by
  unfold PyData.strOk
  rw [cd_cps, List.all_toArray, List.all_eq_true]
  intro c hc
  have := h c hc
  simp
  omega
theorem sh_3 {s : Str} {z : Int} (hs : PyData.strOk s = true ∧ s.cps.size ≤ 10) (h1 : -(10 ^ 30) ≤ z) (h2 : z ≤ 10 ^ 30) : Sh [.str s, .int z, .bl false] := by
  have a := showI' h1 h2
  simp only [PyData.showable] at a
  refine ⟨?_, ?_, ?_, ?_⟩
  · simp [isDts, isDt, hs.1]
  · simp [dpDs, dpD]
  · simp only [toPys, toPy, PyData.showableAll, PyData.showable]
    simp [a]
  · simp only [toPys, toPy, PyData.bulkAll, PyData.bulk]; omega
theorem sh_stairs (h : Stair S m) (hl : S.length ≤ 60) (hm : m ≤ 60) : Sh [.str "stairs", .tup (rz (rowsZ S))] := by
  have s0 : PyData.strOk "stairs" = true ∧ ("stairs" : Str).cps.size ≤ 10 := by decide +kernel
  have r := sh_rows h hl hm
  have r1 := r.h1
  have r2 := dpDs_rz (rowsZ S)
  have r3 := r.h3
  have r4 := bulk_rz (rowsZ S)
  have l0 : (rowsZ S).length = S.length := by simp [rowsZ]
  refine ⟨?_, ?_, ?_, ?_⟩
  · simp [isDts, isDt, s0.1, r1]
  · simp only [dpDs, dpD]; omega
  · simp [toPys, toPy, PyData.showableAll, PyData.showable, r3]
  · have := s0.2
    simp only [toPys, toPy, PyData.bulkAll, PyData.bulk, r4]; omega
theorem noLs_rz (L : List (Int × Int)) : noLs (rz L) = true := by
  induction L with
  | nil => rfl
  | cons p L ih => simp [ih]
def shZ (v : Int) (L : List (Int × Int)) : List (Int × Int) := L.map fun p => (p.1 + v, p.2)
theorem fnl_shZ {ok : Int × Int → Int × Int → Bool} (hok : ∀ p q v, ok (p.1 + v, p.2) (q.1 + v, q.2) = ok p q) (v : Int) : ∀ (L : List (Int × Int)) (k : Nat), fnl ok k (shZ v L) = fnl ok k L
  | [], _ => rfl
  | [_], _ => rfl
  | p :: q :: r, k => by
    show (if ok (p.1 + v, p.2) (q.1 + v, q.2) = true then fnl ok (k + 1) (shZ v (q :: r)) else some k) = _
    rw [hok, fnl_shZ hok v (q :: r) (k + 1), fnl]
theorem rowOk_sh (p q : Int × Int) (v : Int) : rowOk (p.1 + v, p.2) (q.1 + v, q.2) = rowOk p q := by
  unfold rowOk
  dsimp only
  rw [show q.1 + v - (p.1 + v) = q.1 - p.1 by omega]
theorem leanOk_sh (p q : Int × Int) (v : Int) : leanOk (p.1 + v, p.2) (q.1 + v, q.2) = leanOk p q := by
  unfold leanOk
  dsimp only
  rw [show q.1 + v - (p.1 + v) = q.1 - p.1 by omega]
theorem norm_shZ (v : Int) (L : List (Int × Int)) : norm (shZ v L) = norm L := by
  cases L with
  | nil => rfl
  | cons p r =>
    unfold norm shZ
    rw [List.map_map]
    apply List.map_congr_left
    intro x _
    simp
    omega
theorem Stair.fitsSh (h : Stair S m) (hl : S.length ≤ 60) (hm : m ≤ 60) {v : Int} (hv : ∀ p ∈ rowsZ S, -4000 ≤ p.1 + v ∧ p.1 + v ≤ 4000) : Fits (shZ v (rowsZ S)) := by
  have f := h.fits hl hm
  refine ⟨by simp [shZ]; exact f.l1, by simp [shZ]; exact f.l2, fun p hp => ?_, by rw [fnl_shZ rowOk_sh]; exact f.row⟩
  obtain ⟨q, hq, rfl⟩ := List.mem_map.mp hp
  have := f.far q hq
  have := hv q hq
  dsimp only
  omega
theorem rowsZ_last (h : Stair S m) : ∃ T f, S = T ++ [(f, m)] ∧ f < m := by
  have hp := h.pos
  have hz : S[S.length - 1]? = some S[S.length - 1] := List.getElem?_eq_getElem (by omega)
  have e : S = S.dropLast ++ [S[S.length - 1]] := by
    rw [← List.getLast_eq_getElem h.ne]
    exact (List.dropLast_concat_getLast h.ne).symm
  have lm := h.last hz
  have al := h.all _ (List.mem_of_getElem? hz)
  refine ⟨S.dropLast, S[S.length - 1].1, ?_, by omega⟩
  rw [← lm]
  exact e
theorem at_rows (L : List (Int × Int)) (p : Int × Int) : atI (rz (L ++ [p])) (-1) = some (.tup [.int p.1, .int p.2]) := by
  rw [← rz_append]
  exact P0.atI_last _ _
theorem le_last (h : Stair S m) {f : Nat} {T : List (Nat × Nat)} (e : S = T ++ [(f, m)]) : ∀ p ∈ rowsZ S, 0 ≤ p.1 ∧ p.1 ≤ f := fun p hp => by
  obtain ⟨x, hx, rfl⟩ := List.mem_map.mp hp
  obtain ⟨i, hi, rfl⟩ := List.getElem_of_mem hx
  have hl : S.length = T.length + 1 := by rw [e]; simp
  have hlast : S[i + (S.length - 1 - i)]? = some (f, m) := by
    rw [show i + (S.length - 1 - i) = T.length by omega, e, List.getElem?_append_right (Nat.le_refl _), Nat.sub_self]; rfl
  have := h.mono1 (S.length - 1 - i) i (List.getElem?_eq_getElem hi) hlast
  dsimp only at this ⊢
  omega
theorem rz_ne {L : List (Int × Int)} (h : L ≠ []) : ∃ p r, L = p :: r := by
  cases L with
  | nil => exact absurd rfl h
  | cons p r => exact ⟨p, r, rfl⟩
theorem moves_at {w : Int} (h0 : 0 ≤ w) (h1 : w < 4) (a b c d : Int) : ∃ v, (v = a ∨ v = b ∨ v = c ∨ v = d) ∧ atI [Dv.int a, .int b, .int c, .int d] w = some (.int v) := by
  have : w = ((0 : Nat) : Int) ∨ w = ((1 : Nat) : Int) ∨ w = ((2 : Nat) : Int) ∨ w = ((3 : Nat) : Int) := by omega
  rcases this with rfl | rfl | rfl | rfl
  · exact ⟨a, by simp, atI_get rfl⟩
  · exact ⟨b, by simp, atI_get rfl⟩
  · exact ⟨c, by simp, atI_get rfl⟩
  · exact ⟨d, by simp, atI_get rfl⟩
theorem fnl_app (ok : Int × Int → Int × Int → Bool) (p q : Int × Int) (r : List (Int × Int)) : ∀ (A : List (Int × Int)) (k : Nat), fnl ok k (A ++ [p]) = none → fnl ok k (A ++ p :: q :: r) = if ok p q = true then fnl ok (k + A.length + 1) (q :: r) else some (k + A.length)
  | [], k, _ => rfl
  | [a], k, h => by
    have h' : (if ok a p = true then (none : Option Nat) else some k) = none := h
    have ha : ok a p = true := by
      by_cases c : ok a p = true
      · exact c
      · rw [if_neg c] at h'; cases h'
    show (if ok a p = true then fnl ok (k + 1) (p :: q :: r) else some k) = _
    rw [if_pos ha]; rfl
  | a :: b :: A, k, h => by
    have h' : (if ok a b = true then fnl ok (k + 1) (b :: A ++ [p]) else some k) = none := h
    have ha : ok a b = true := by
      by_cases c : ok a b = true
      · exact c
      · rw [if_neg c] at h'; cases h'
    rw [if_pos ha] at h'
    have ih := fnl_app ok p q r (b :: A) (k + 1) h'
    show (if ok a b = true then fnl ok (k + 1) (b :: A ++ p :: q :: r) else some k) = _
    rw [if_pos ha, ih]
    simp only [List.length_cons]
    rw [show k + 1 + (A.length + 1) + 1 = k + (A.length + 1 + 1) + 1 by omega, show k + 1 + (A.length + 1) = k + (A.length + 1 + 1) by omega]
theorem norm_zero (l : Int) (r : List (Int × Int)) : norm ((0, l) :: r) = (0, l) :: r := by
  unfold norm
  have : ∀ L : List (Int × Int), L.map (fun p => (p.1 - (((0, l) :: r).headD (0, 0)).1, p.2)) = L := fun L => by
    induction L with
    | nil => rfl
    | cons a L ih => rw [List.map_cons, ih]; simp
  exact this _
theorem fnl_any (ok : Int × Int → Int × Int → Bool) : ∀ (L : List (Int × Int)) (j k : Nat), fnl ok j L = none → fnl ok k L = none
  | [], _, _, _ => rfl
  | [_], _, _, _ => rfl
  | p :: q :: r, j, k, h => by
    rw [fnl] at h ⊢
    by_cases c : ok p q = true
    · rw [if_pos c] at h ⊢
      exact fnl_any ok (q :: r) _ _ h
    · rw [if_neg c] at h; cases h
structure Wr (S : List (Nat × Nat)) (m : Nat) (f : Nat) (w : Int × Int) : Prop where
  r : rowOk ((f : Int), (m : Int) - f) w = true
  l : leanOk ((f : Int), (m : Int) - f) w = false
  w1 : 1 ≤ w.2
  w2 : w.2 ≤ 60
  b1 : -100 ≤ w.1
  b2 : w.1 ≤ 100
theorem rowsZ_cat (T : List (Nat × Nat)) (f m : Nat) : rowsZ (T ++ [(f, m)]) = rowsZ T ++ [((f : Int), (m : Int) - f)] := by simp [rowsZ]
theorem head_rows (h : Stair S m) : ∃ l r, rowsZ S = (0, l) :: r := by
  obtain ⟨e, r, rfl, c⟩ := h.ex
  exact ⟨_, _, rfl⟩
end K41
end
section
set_option Elab.async false
set_option linter.all false
set_option maxRecDepth 100000
set_option maxHeartbeats 4000000
namespace K41
open PySem L2 P0
variable {ca : Nat → Addr}
theorem lit_o : Str.ofString "(" = cd [40] := by decide +kernel
theorem lit_c : Str.ofString ")" = cd [41] := by decide +kernel
theorem lit_oc : Str.ofString "()" = cd [40, 41] := by decide +kernel
theorem lit_co : Str.ofString ")(" = cd [41, 40] := by decide +kernel
theorem lit_E : Str.ofString "" = cd [] := by decide +kernel
def isB (c : Nat) : Bool := decide (c = 40) || decide (c = 41)
theorem in_oc (n : Bool) (c : Nat) (ρ : VE) : pIn n (.str (cd [c])) (.str (cd [40, 41])) ρ = .ok (.d (.bl (if n then !isB c else isB c))) ρ := by
  simp [pInB, isB]
/-- the first place of another sign -/
def badB : Nat → List Nat → Option Nat
  | _, [] => none
  | k, c :: r => if isB c = true then badB (k + 1) r else some k
theorem letters_loop {s0 s1 : Sl} : ∀ (w : List Nat) (k : Nat) (s2 s3 : Sl), s1 = .val (.str (cd [40, 41])) → isIo (some s2) = false → isIo (some s3) = false →
    ∃ ρ, forL (gT 2 (gC (setS 2) (gC (setS 3) gN))) (L1_check_letters ca) (((chs w).zipIdx k).map fun p => Dv.tup [.int p.2, p.1]) [s0, s1, s2, s3] =
      match badB k w with
      | none => .ok .nx ρ
      | some j => .exc ⟨"WordError", some [("at", .int j)]⟩ ρ
  | [], k, s2, s3, _, h2, h3 => ⟨_, rfl⟩
  | c :: w, k, s2, s3, hs, h2, h3 => by
    subst hs
    have g : gT 2 (gC (setS 2) (gC (setS 3) gN)) (.tup [.int (k : Int), .str (cd [c])]) [s0, .val (.str (cd [40, 41])), s2, s3] = .ok () [s0, .val (.str (cd [40, 41])), .val (.int k), .val (.str (cd [c]))] := by simp [h2, h3]
    have i := in_oc true c
    show ∃ ρ, forL _ _ (Dv.tup [.int (k : Int), .str (cd [c])] :: (((chs w).zipIdx (k + 1)).map fun p => Dv.tup [.int p.2, p.1])) _ = _
    rw [badB]
    by_cases hc : isB c = true
    · have b : L1_check_letters ca [s0, .val (.str (cd [40, 41])), .val (.int k), .val (.str (cd [c]))] = .ok .nx [s0, .val (.str (cd [40, 41])), .val (.int k), .val (.str (cd [c]))] := by
        simp [L1_check_letters, -x_pIn, i, hc]
      rw [forL_nx g b, if_pos hc]
      exact letters_loop w (k + 1) _ _ rfl rfl rfl
    · have b : L1_check_letters ca [s0, .val (.str (cd [40, 41])), .val (.int k), .val (.str (cd [c]))] = .exc ⟨"WordError", some [("at", .int k)]⟩ [s0, .val (.str (cd [40, 41])), .val (.int k), .val (.str (cd [c]))] := by
        simp [L1_check_letters, -x_pIn, i, hc]
      rw [forL_exc g b, if_neg hc]
      exact ⟨_, rfl⟩
theorem run_letters (w : List Nat) : ∃ ρ, m_check_letters ca [.val (.str (cd w)), .val (.str (cd [40, 41]))] = match badB 0 w with
      | none => .ok (.d .non) ρ
      | some j => .exc ⟨"WordError", some [("at", .int j)]⟩ ρ := by
  obtain ⟨ρ, e⟩ := letters_loop (ca := ca) (s0 := .val (.str (cd w))) w 0 .no .no rfl rfl rfl
  have e' : forL (gT 2 (gC (setS 2) (gC (setS 3) gN))) (L1_check_letters ca) (enumD (chs w)) [.val (.str (cd w)), .val (.str (cd [40, 41])), .no, .no] = _ := e
  cases hb : badB 0 w with
  | none =>
    rw [hb] at e'
    simp [m_check_letters, b_check_letters, cd_walk, e']
  | some j =>
    rw [hb] at e'
    simp [m_check_letters, b_check_letters, cd_walk, e']
/-! ### check_balance -/
def bal : Nat → Nat → List Nat → Option Nat ⊕ Nat
  | _, h, [] => .inr h
  | k, h, c :: r => if c = 41 then (if h = 0 then .inl (some k) else bal (k + 1) (h - 1) r) else bal (k + 1) (if c = 40 then h + 1 else h) r
theorem balance_loop {s0 : Sl} : ∀ (w : List Nat) (k h : Nat) (s4 s5 : Sl), isIo (some s4) = false → isIo (some s5) = false →
    ∃ s4' s5' ρ, forL (gT 2 (gC (setS 4) (gC (setS 5) gN))) (L1_check_balance ca) (((chs w).zipIdx k).map fun p => Dv.tup [.int p.2, p.1]) [s0, .val (.str (cd [40])), .val (.str (cd [41])), .val (.int h), s4, s5] =
      match bal k h w with
      | .inr g => .ok .nx [s0, .val (.str (cd [40])), .val (.str (cd [41])), .val (.int g), s4', s5']
      | .inl (some j) => .exc ⟨"WordError", some [("at", .int j)]⟩ ρ
      | .inl none => .bad
  | [], k, h, s4, s5, h2, h3 => ⟨s4, s5, [], rfl⟩
  | c :: w, k, h, s4, s5, h2, h3 => by
    have g : gT 2 (gC (setS 4) (gC (setS 5) gN)) (.tup [.int (k : Int), .str (cd [c])]) [s0, .val (.str (cd [40])), .val (.str (cd [41])), .val (.int h), s4, s5] = .ok () [s0, .val (.str (cd [40])), .val (.str (cd [41])), .val (.int h), .val (.int k), .val (.str (cd [c]))] := by simp [h2, h3]
    show ∃ s4' s5' ρ, forL _ _ (Dv.tup [.int (k : Int), .str (cd [c])] :: (((chs w).zipIdx (k + 1)).map fun p => Dv.tup [.int p.2, p.1])) _ = _
    rw [bal]
    by_cases hc : c = 41
    · subst hc
      rw [if_pos rfl]
      by_cases hh : h = 0
      · subst hh
        have b : L1_check_balance ca [s0, .val (.str (cd [40])), .val (.str (cd [41])), .val (.int (0 : Nat)), .val (.int k), .val (.str (cd [41]))] = .exc ⟨"WordError", some [("at", .int k)]⟩ [s0, .val (.str (cd [40])), .val (.str (cd [41])), .val (.int (0 : Nat)), .val (.int k), .val (.str (cd [41]))] := by
          simp [L1_check_balance]
        rw [forL_exc g b, if_pos rfl]
        exact ⟨.no, .no, _, rfl⟩
      · have q : ((h - 1 : Nat) : Int) = (h : Int) - 1 := by omega
        have b : L1_check_balance ca [s0, .val (.str (cd [40])), .val (.str (cd [41])), .val (.int h), .val (.int k), .val (.str (cd [41]))] = .ok .nx [s0, .val (.str (cd [40])), .val (.str (cd [41])), .val (.int (h - 1 : Nat)), .val (.int k), .val (.str (cd [41]))] := by
          rw [q]
          simp [L1_check_balance, hh]
        rw [forL_nx g b, if_neg hh]
        exact balance_loop w (k + 1) (h - 1) _ _ rfl rfl
    · rw [if_neg hc]
      have q : (((if c = 40 then h + 1 else h) : Nat) : Int) = if c = 40 then (h : Int) + 1 else h := by split <;> omega
      have b : L1_check_balance ca [s0, .val (.str (cd [40])), .val (.str (cd [41])), .val (.int h), .val (.int k), .val (.str (cd [c]))] = .ok .nx [s0, .val (.str (cd [40])), .val (.str (cd [41])), .val (.int (if c = 40 then h + 1 else h : Nat)), .val (.int k), .val (.str (cd [c]))] := by
        rw [q]
        by_cases h40 : c = 40 <;> simp [L1_check_balance, hc, h40]
      rw [forL_nx g b]
      exact balance_loop w (k + 1) _ _ _ rfl rfl
/-- the first fault -/
def flt (w : List Nat) : Option Nat := match badB 0 w with
  | some j => some j
  | none => match bal 0 0 w with
    | .inl j => j
    | .inr h => if 0 < h then some w.length else none
theorem qLen_cd (w : List Nat) (h : w.length ≤ 1000) (ρ : VE) : qLen [.str (cd w)] ρ = .ok (.d (.int w.length)) ρ := by
  have z5 : w.length ≤ sizeLine := szle (by omega)
  simp [qLen, z5]
theorem bal_no : ∀ (w : List Nat) (k h : Nat), bal k h w ≠ .inl none
  | [], k, h => by simp [bal]
  | c :: w, k, h => by
    rw [bal]
    split
    · split
      · simp
      · exact bal_no w _ _
    · exact bal_no w _ _
theorem run_brackets {w : List Nat} {lo hi : Int} (hl : w.length ≤ 1000) (h1 : lo ≤ w.length) (h2 : w.length ≤ hi) : ∃ ρ, m_check_brackets ca [.val (.str (cd w)), .val (.int lo), .val (.int hi)] = match flt w with
      | none => .ok (.d .non) ρ
      | some j => .exc ⟨"WordError", some [("at", .int j)]⟩ ρ := by
  have e1 := run_check_size (ca := ca) h1 h2
  obtain ⟨ρ, e2⟩ := run_letters (ca := ca) w
  have ql := qLen_cd w hl
  unfold flt
  cases hb : badB 0 w with
  | some j =>
    rw [hb] at e2
    simp [m_check_brackets, b_check_brackets, ql, e1, lit_oc, e2]
  | none =>
    rw [hb] at e2
    obtain ⟨s4, s5, ρ3, e3⟩ := balance_loop (ca := ca) (s0 := .val (.str (cd w))) w 0 0 .no .no rfl rfl
    have e3' : forL (gT 2 (gC (setS 4) (gC (setS 5) gN))) (L1_check_balance ca) (enumD (chs w)) [.val (.str (cd w)), .val (.str (cd [40])), .val (.str (cd [41])), .val (.int 0), .no, .no] = _ := e3
    cases hh : bal 0 0 w with
    | inl j =>
      cases j with
      | none => exact absurd hh (bal_no w 0 0)
      | some j =>
        rw [hh] at e3'
        simp [m_check_brackets, b_check_brackets, m_check_balance, b_check_balance, ql, e1, lit_oc, lit_o, lit_c, e2, cd_walk, e3']
    | inr h =>
      rw [hh] at e3'
      by_cases h0 : 0 < h
      · have h0' : (0 : Int) < h := by omega
        simp [m_check_brackets, b_check_brackets, m_check_balance, b_check_balance, ql, e1, lit_oc, lit_o, lit_c, e2, cd_walk, e3', h0, h0']
      · have h0' : h = 0 := by omega
        simp [m_check_brackets, b_check_brackets, m_check_balance, b_check_balance, ql, e1, lit_oc, lit_o, lit_c, e2, cd_walk, e3', h0']
theorem exc_brackets {w : List Nat} {lo hi : Int} (hl : w.length ≤ 1000) (h : (w.length : Int) < lo ∨ hi < w.length) : ∃ ρ, m_check_brackets ca [.val (.str (cd w)), .val (.int lo), .val (.int hi)] = .exc ⟨"SizeError", some [("count", .int w.length)]⟩ ρ := by
  obtain ⟨ρ, e1⟩ := exc_check_size (ca := ca) h
  have ql := qLen_cd w hl
  simp [m_check_brackets, b_check_brackets, ql, e1]
/-! ### heights_between -/
def pv : Option Nat → List Nat
  | none => []
  | some c => [c]
theorem pv_eq (l : Option Nat) (a : Nat) : (pv l = [a]) = (l = some a) := by cases l <;> simp [pv]
theorem hb_loop {d : Sl} {a b : Nat} : ∀ (w : List Nat) (acc : List Int) (l : Option Nat) (z : Int) (s6 : Sl), acc.length + w.length ≤ 1000 → isIo (some s6) = false →
    ∃ ρ, forL (setS 6) (L1_heights_between ca) (chs w) [d, .val (.str (cd [a])), .val (.str (cd [b])), .mu false (.lst (iz acc)), .val (.int z), .val (.str (cd (pv l))), s6] =
      .ok .nx (d :: .val (.str (cd [a])) :: .val (.str (cd [b])) :: .mu false (.lst (iz (acc ++ hts a b l z w))) :: ρ)
  | [], acc, l, z, s6, _, h6 => ⟨_, by rw [hts, List.append_nil]; rfl⟩
  | c :: w, acc, l, z, s6, hl, h6 => by
    rw [List.length_cons] at hl
    have zz : acc.length < sizeLine := szlt (by omega)
    obtain ⟨ρ, ih⟩ := hb_loop w (acc ++ if l = some a ∧ c = b then [z] else []) (some c) (z + if c = 40 then 1 else -1) (.val (.str (cd [c]))) (by rw [List.length_append]; split <;> simp <;> omega) rfl
    refine ⟨ρ, ?_⟩
    have bb : L1_heights_between ca [d, .val (.str (cd [a])), .val (.str (cd [b])), .mu false (.lst (iz acc)), .val (.int z), .val (.str (cd (pv l))), .val (.str (cd [c]))] =
        .ok .nx [d, .val (.str (cd [a])), .val (.str (cd [b])), .mu false (.lst (iz (acc ++ if l = some a ∧ c = b then [z] else []))), .val (.int (z + if c = 40 then 1 else -1)), .val (.str (cd (pv (some c)))), .val (.str (cd [c]))] := by
      have pq := pv_eq l a
      show _ = P0.R.ok Fl.nx [d, .val (.str (cd [a])), .val (.str (cd [b])), .mu false (.lst (iz (acc ++ if l = some a ∧ c = b then [z] else []))), .val (.int (z + if c = 40 then 1 else -1)), .val (.str (cd [c])), .val (.str (cd [c]))]
      generalize pv l = pl at pq ⊢
      by_cases h1 : l = some a
      · simp only [h1] at pq
        have pq' : pl = [a] := by simpa using pq
        by_cases h2 : c = b
        · by_cases h3 : c = 40
          · simp [L1_heights_between, lit_o, pq', h1, h2.symm, h3, zz]
          · simp [L1_heights_between, lit_o, pq', h1, h2.symm, h3, zz]
        · by_cases h3 : c = 40
          · have h2' : ¬ 40 = b := by omega
            simp [L1_heights_between, lit_o, pq', h1, h2', h3, zz]
          · simp [L1_heights_between, lit_o, pq', h1, h2, h3, zz]
      · have pq' : ¬ pl = [a] := by rw [pq]; exact h1
        by_cases h3 : c = 40 <;> simp [L1_heights_between, lit_o, pq', h1, h3, zz]
    show forL _ _ (Dv.str (cd [c]) :: chs w) _ = _
    rw [forL_nx (run_setS (by simp) (by simp [h6])) bb, hts, ← List.append_assoc]
    exact ih
theorem run_hb (a b : Nat) (w : List Nat) (hl : w.length ≤ 1000) : ∃ ρ, m_heights_between ca [.val (.str (cd w)), .val (.str (cd [a])), .val (.str (cd [b]))] = .ok (.fr (.lst (iz (hts a b none 0 w)))) ρ := by
  obtain ⟨ρ, e⟩ := hb_loop (ca := ca) (d := .val (.str (cd w))) (a := a) (b := b) w [] none 0 .no (by simp; omega) rfl
  have e' : forL (setS 6) (L1_heights_between ca) (chs w) [.val (.str (cd w)), .val (.str (cd [a])), .val (.str (cd [b])), .mu false (.lst []), .val (.int 0), .val (.str (cd [])), .no] = _ := e
  simp [m_heights_between, b_heights_between, cd_walk, lit_E, e']
end K41
end
section
set_option Elab.async false
set_option linter.all false
set_option maxRecDepth 100000
set_option maxHeartbeats 4000000
namespace K41
open PySem L2 P0
variable {ca : Nat → Addr}
variable {S : List (Nat × Nat)} {m : Nat}
/-! ### faults and reading -/
theorem bal_rd : ∀ (w : List Nat) (k h : Nat), badB k w = none → ∀ g, (bal k h w = .inr g ↔ rd h w = some g)
  | [], k, h, _, g => by simp [bal, rd]
  | c :: w, k, h, hb, g => by
    rw [badB] at hb
    split at hb
    · rename_i hc
      have hb1 := hb
      rw [bal, rd]
      by_cases h40 : c = 40
      · subst h40
        simp
        exact bal_rd w _ _ hb1 g
      · have h41 : c = 41 := by
          simp [isB, h40] at hc
          exact hc
        subst h41
        by_cases hh : h = 0
        · simp [hh]
        · simp [hh]
          exact bal_rd w _ _ hb1 g
    · cases hb
theorem badB_mem : ∀ (w : List Nat) (k : Nat), (∀ c ∈ w, c = 40 ∨ c = 41) → badB k w = none
  | [], _, _ => rfl
  | c :: w, k, h => by
    have : isB c = true := by
      rcases h c List.mem_cons_self with rfl | rfl <;> rfl
    rw [badB, if_pos this]
    exact badB_mem w _ fun x hx => h x (List.mem_cons_of_mem _ hx)
theorem flt_rd (w : List Nat) : flt w = none ↔ rd 0 w = some 0 := by
  unfold flt
  cases hb : badB 0 w with
  | some j =>
    refine ⟨fun h => (by simp at h), fun h => ?_⟩
    rw [badB_mem w 0 (rd_mem w 0 0 h)] at hb
    cases hb
  | none =>
    have k := bal_rd w 0 0 hb
    cases hh : bal 0 0 w with
    | inl j =>
      have := bal_no w 0 0
      cases j with
      | none => exact absurd hh this
      | some j =>
        have k0 := k 0
        rw [hh] at k0
        simp at k0
        simp [k0]
    | inr g =>
      have kg := (k g).mp hh
      rw [kg]
      by_cases hg : 0 < g
      · simp [hg]; omega
      · simp [hg]; omega
theorem run_tops {w : List Nat} (hl : w.length ≤ 240) (hf : flt w = none) : ∃ ρ, m_tops ca [.val (.str (cd w))] = .ok (.fr (.lst (iz (hts 40 41 none 0 w)))) ρ := by
  obtain ⟨ρ1, e1⟩ := run_brackets (ca := ca) (w := w) (lo := 0) (hi := 240) (by omega) (by omega) (by omega)
  rw [hf] at e1
  obtain ⟨ρ2, e2⟩ := run_hb (ca := ca) 40 41 w (by omega)
  simp [m_tops, b_tops, lit_o, lit_c, e1, e2]
theorem run_bottoms {w : List Nat} (hl : w.length ≤ 240) (hf : flt w = none) : ∃ ρ, m_bottoms ca [.val (.str (cd w))] = .ok (.fr (.lst (iz (hts 41 40 none 0 w)))) ρ := by
  obtain ⟨ρ1, e1⟩ := run_brackets (ca := ca) (w := w) (lo := 0) (hi := 240) (by omega) (by omega) (by omega)
  rw [hf] at e1
  obtain ⟨ρ2, e2⟩ := run_hb (ca := ca) 41 40 w (by omega)
  simp [m_bottoms, b_bottoms, lit_o, lit_c, e1, e2]
theorem exc_tops {w : List Nat} (hl : w.length ≤ 1000) : (240 < w.length → ∃ ρ, m_tops ca [.val (.str (cd w))] = .exc ⟨"SizeError", some [("count", .int w.length)]⟩ ρ) ∧
    (∀ j, w.length ≤ 240 → flt w = some j → ∃ ρ, m_tops ca [.val (.str (cd w))] = .exc ⟨"WordError", some [("at", .int j)]⟩ ρ) := by
  constructor
  · intro h
    obtain ⟨ρ1, e1⟩ := exc_brackets (ca := ca) (w := w) (lo := 0) (hi := 240) hl (by omega)
    simp [m_tops, b_tops, e1]
  · intro j h hf
    obtain ⟨ρ1, e1⟩ := run_brackets (ca := ca) (w := w) (lo := 0) (hi := 240) hl (by omega) (by omega)
    rw [hf] at e1
    simp [m_tops, b_tops, e1]
theorem exc_bottoms {w : List Nat} (hl : w.length ≤ 1000) : (240 < w.length → ∃ ρ, m_bottoms ca [.val (.str (cd w))] = .exc ⟨"SizeError", some [("count", .int w.length)]⟩ ρ) ∧
    (∀ j, w.length ≤ 240 → flt w = some j → ∃ ρ, m_bottoms ca [.val (.str (cd w))] = .exc ⟨"WordError", some [("at", .int j)]⟩ ρ) := by
  constructor
  · intro h
    obtain ⟨ρ1, e1⟩ := exc_brackets (ca := ca) (w := w) (lo := 0) (hi := 240) hl (by omega)
    simp [m_bottoms, b_bottoms, e1]
  · intro j h hf
    obtain ⟨ρ1, e1⟩ := run_brackets (ca := ca) (w := w) (lo := 0) (hi := 240) hl (by omega) (by omega)
    rw [hf] at e1
    simp [m_bottoms, b_bottoms, e1]
theorem exc_stair_of {w : List Nat} (hl : w.length ≤ 1000) : ((w.length < 2 ∨ 120 < w.length) → ∃ ρ, m_stair_of ca [.val (.str (cd w))] = .exc ⟨"SizeError", some [("count", .int w.length)]⟩ ρ) ∧
    (∀ j, 2 ≤ w.length → w.length ≤ 120 → flt w = some j → ∃ ρ, m_stair_of ca [.val (.str (cd w))] = .exc ⟨"WordError", some [("at", .int j)]⟩ ρ) := by
  constructor
  · intro h
    obtain ⟨ρ1, e1⟩ := exc_brackets (ca := ca) (w := w) (lo := 2) (hi := 120) hl (by omega)
    simp [m_stair_of, b_stair_of, e1]
  · intro j h h' hf
    obtain ⟨ρ1, e1⟩ := run_brackets (ca := ca) (w := w) (lo := 2) (hi := 120) hl (by omega) (by omega)
    rw [hf] at e1
    simp [m_stair_of, b_stair_of, e1]
/-! ### stair_of -/
def hz (S : List (Nat × Nat)) : List Int := S.map fun q => ((q.2 : Int) - q.1)
theorem hz_at {S : List (Nat × Nat)} {i : Nat} {q : Nat × Nat} (h : S[i]? = some q) : atI (iz (hz S)) (i : Int) = some (.int ((q.2 : Int) - q.1)) := by
  refine atI_get ?_
  unfold iz hz
  rw [List.map_map, List.getElem?_map, h]; rfl
theorem enum_cons (k : Nat) (z : Int) (l : List Int) : (((iz (z :: l)).zipIdx k).map fun p => Dv.tup [.int p.2, p.1]) = .tup [.int k, .int z] :: (((iz l).zipIdx (k + 1)).map fun p => Dv.tup [.int p.2, p.1]) := rfl
theorem so_turn {d s4 s5 : Sl} {T : List (Nat × Nat)} {A : List (Nat × Nat)} {p q : Nat × Nat} (hA : A.length ≤ 500) (hp : A[T.length]? = some p) (hq : A[T.length + 1]? = some q) (hT : T.length ≤ 500) :
    L1_stair_of ca [d, .mu false (.lst (iz (hz A))), .val (.int (p.1 : Nat)), .mu false (.lst (rz (rowsZ (T ++ [p])))), .val (.int (T.length : Nat)), .val (.int ((p.2 : Int) - q.1 - 1))] =
      .ok .nx [d, .mu false (.lst (iz (hz A))), .val (.int (q.1 : Nat)), .mu false (.lst (rz (rowsZ ((T ++ [p]) ++ [q])))), .val (.int (T.length : Nat)), .val (.int ((p.2 : Int) - q.1 - 1))] := by
  have a1 := hz_at hp
  have a2 := hz_at hq
  have q1 : ((T.length + 1 : Nat) : Int) = (T.length : Int) + 1 := by omega
  rw [q1] at a2
  have z : (rz (rowsZ (T ++ [p]))).length < sizeLine := szlt (by simp [rowsZ]; omega)
  have e1 : (p.1 : Int) + ((p.2 : Int) - p.1 - ((p.2 : Int) - q.1 - 1) - 1) = q.1 := by omega
  have sn := rowsZ_snoc (T ++ [p]) q.1 q.2
  generalize rz (rowsZ (T ++ [p])) = RR at z sn ⊢
  generalize iz (hz A) = HH at a1 a2 ⊢
  have z' : RR.length < sizeLine := z
  simp [L1_stair_of, a1, a2, e1, z']
  simpa using sn
theorem so_loop {d : Sl} : ∀ (r : List (Nat × Nat)) (p : Nat × Nat) (T A : List (Nat × Nat)) (s4 s5 : Sl), A = T ++ p :: r → A.length ≤ 500 → isIo (some s4) = false → isIo (some s5) = false →
    ∃ ρ f, forL (gT 2 (gC (setS 4) (gC (setS 5) gN))) (L1_stair_of ca) (((iz (low p r)).zipIdx T.length).map fun p => Dv.tup [.int p.2, p.1]) [d, .mu false (.lst (iz (hz A))), .val (.int (p.1 : Nat)), .mu false (.lst (rz (rowsZ (T ++ [p])))), s4, s5] =
      .ok .nx (d :: .mu false (.lst (iz (hz A))) :: .val (.int f) :: .mu false (.lst (rz (rowsZ A))) :: ρ)
  | [], p, T, A, s4, s5, hA, hl, h4, h5 => ⟨[s4, s5], p.1, by rw [hA]; rfl⟩
  | q :: r, p, T, A, s4, s5, hA, hl, h4, h5 => by
    have hT : T.length ≤ 500 := by rw [hA] at hl; simp at hl; omega
    have hp : A[T.length]? = some p := by rw [hA, List.getElem?_append_right (Nat.le_refl _), Nat.sub_self]; rfl
    have hq : A[T.length + 1]? = some q := by rw [hA, List.getElem?_append_right (by omega), show T.length + 1 - T.length = 1 by omega]; rfl
    have t := so_turn (ca := ca) (d := d) (s4 := s4) (s5 := s5) hl hp hq hT
    obtain ⟨ρ, f, ih⟩ := so_loop (d := d) r q (T ++ [p]) A (.val (.int (T.length : Nat))) (.val (.int ((p.2 : Int) - q.1 - 1))) (by rw [hA]; simp) hl rfl rfl
    refine ⟨ρ, f, ?_⟩
    have g : gT 2 (gC (setS 4) (gC (setS 5) gN)) (.tup [.int (T.length : Nat), .int ((p.2 : Int) - q.1 - 1)]) [d, .mu false (.lst (iz (hz A))), .val (.int (p.1 : Nat)), .mu false (.lst (rz (rowsZ (T ++ [p])))), s4, s5] =
      .ok () [d, .mu false (.lst (iz (hz A))), .val (.int (p.1 : Nat)), .mu false (.lst (rz (rowsZ (T ++ [p])))), .val (.int (T.length : Nat)), .val (.int ((p.2 : Int) - q.1 - 1))] := by simp [h4, h5]
    rw [low, enum_cons, forL_nx g t]
    rw [List.length_append, List.length_singleton] at ih
    exact ih
theorem word_len {e : Nat} {r : List (Nat × Nat)} (h : Ch (0, e) r m) : (word ((0, e) :: r)).length = 2 * (m + r.length) := by
  have := wd_len r (0, e) m h
  simp [word]
  simp at this
  omega
theorem word_flt {e : Nat} {r : List (Nat × Nat)} (h : Ch (0, e) r m) : flt (word ((0, e) :: r)) = none := by
  rw [flt_rd, word, rd_up, ← wd_rd r (0, e) m h]
  congr 1
  simp
theorem run_stair_of (h : Stair S m) (hl : (word S).length ≤ 120) : ∃ ρ, m_stair_of ca [.val (.str (cd (word S)))] = .ok (.fr (laneD ca (rowsZ S))) ρ := by
  obtain ⟨e, r, rfl, c⟩ := h.ex
  have wl := word_len c
  have c0 := c.lt
  have c1 := c.le
  dsimp only at c0 c1
  obtain ⟨ρ1, e1⟩ := run_brackets (ca := ca) (w := word ((0, e) :: r)) (lo := 2) (hi := 120) (by omega) (by omega) (by omega)
  rw [word_flt c] at e1
  obtain ⟨ρ2, e2⟩ := run_hb (ca := ca) 40 41 (word ((0, e) :: r)) (by omega)
  obtain ⟨ρ3, e3⟩ := run_hb (ca := ca) 41 40 (word ((0, e) :: r)) (by omega)
  rw [tops_word c] at e2
  rw [bots_word c none (by simp)] at e3
  have rl : r.length ≤ 60 := by omega
  obtain ⟨ρ4, f, e4⟩ := so_loop (ca := ca) (d := .val (.str (cd (word ((0, e) :: r))))) r (0, e) [] ((0, e) :: r) .no .no rfl (by simp; omega) rfl rfl
  obtain ⟨ρ5, e5⟩ := run_Lane_init (ca := ca) (Sq.lst (rowsZ ((0, e) :: r))) (h.fits (by simp; omega) (by omega))
  rw [h.norm] at e5
  have a0 := hz_at (S := (0, e) :: r) (i := 0) rfl
  rw [show rz (rowsZ ([] ++ [(0, e)])) = [.tup [.int (0 : Int), .int ((e : Int) - 0)]] from rfl] at e4
  rw [show (((iz (low (0, e) r)).zipIdx ([] : List (Nat × Nat)).length).map fun p => Dv.tup [.int p.2, p.1]) = enumD (iz (low (0, e) r)) from rfl] at e4
  change m_heights_between ca [.val (.str (cd (word ((0, e) :: r)))), .val (.str (cd [40])), .val (.str (cd [41]))] = .ok (.fr (.lst (iz (hz ((0, e) :: r))))) ρ2 at e2
  generalize word ((0, e) :: r) = W at *
  generalize iz (hz ((0, e) :: r)) = HH at *
  generalize rz (rowsZ ((0, e) :: r)) = RR at *
  generalize iz (low (0, e) r) = LL at *
  simp at a0 e4
  simp [m_stair_of, b_stair_of, lit_o, lit_c, e1, e2, e3, atI0, a0, walk?, items?, e4, e5]
end K41
end
section
set_option Elab.async false
set_option linter.all false
set_option maxRecDepth 100000
set_option maxHeartbeats 4000000
namespace K41
open PySem L2 P0
variable {ca : Nat → Addr}
variable {S : List (Nat × Nat)} {m : Nat}
/-! ### stair_word -/
def ini : Nat × Nat → List (Nat × Nat) → List (List Nat)
  | _, [] => []
  | p, q :: r => (List.replicate (q.1 - p.1 + 1) 41 ++ List.replicate (q.2 - p.2 + 1) 40) :: ini q r
def lst : Nat × Nat → List (Nat × Nat) → Nat × Nat
  | p, [] => p
  | _, q :: r => lst q r
theorem ini_flat : ∀ (r : List (Nat × Nat)) (p : Nat × Nat), (ini p r).flatten ++ List.replicate ((lst p r).2 - (lst p r).1) 41 = wd p r
  | [], p => rfl
  | q :: r, p => by
    have := ini_flat r q
    rw [ini, lst, wd, List.flatten_cons, List.append_assoc, this, List.append_assoc]
theorem ini_length : ∀ (r : List (Nat × Nat)) (p : Nat × Nat), (ini p r).length = r.length
  | [], p => rfl
  | q :: r, p => by rw [ini, List.length_cons, ini_length r q, List.length_cons]
theorem sw_turn {d s6 : Sl} {A : List (List Nat)} {b h f l t : Int} {n k : Nat} (ht : b + h - f - 1 = t) (hn : h - t = n) (hk : l - t = k) (n1 : n ≤ 1000) (k1 : k ≤ 1000) (ha : A.length ≤ 1000) :
    L1_stair_word ca [d, .val (.int b), .val (.int h), .mu false (.lst (pzs A)), .val (.int f), .val (.int l), s6] =
      if isIo (some s6) = true then .bad else .ok .nx [d, .val (.int f), .val (.int l), .mu false (.lst (pzs (A ++ [List.replicate n 41 ++ List.replicate k 40]))), .val (.int f), .val (.int l), .val (.int t)] := by
  have z1 : A.length < sizeLine := szlt (by omega)
  have b1 : -1000000 ≤ (n : Int) ∧ (n : Int) ≤ 10000 := by omega
  have b2 : -1000000 ≤ (k : Int) ∧ (k : Int) ≤ 10000 := by omega
  have z3 : n + k ≤ sizeLine := szle (by omega)
  cases h6 : isIo (some s6) <;> simp [L1_stair_word, lit_o, lit_c, cd_mul, ht, hn, hk, z1, b1, b2, z3, h6]
theorem sw_loop {d : Sl} : ∀ (r : List (Nat × Nat)) (p : Nat × Nat) (A : List (List Nat)) (s4 s5 s6 : Sl), Ch p r m → m ≤ 500 → A.length + r.length ≤ 500 → isIo (some s4) = false → isIo (some s5) = false → isIo (some s6) = false →
    ∃ ρ, forL (gT 2 (gC (setS 4) (gC (setS 5) gN))) (L1_stair_word ca) (rz (rowsZ r)) [d, .val (.int (p.1 : Nat)), .val (.int ((p.2 : Int) - p.1)), .mu false (.lst (pzs A)), s4, s5, s6] =
      .ok .nx (d :: .val (.int ((lst p r).1 : Nat)) :: .val (.int (((lst p r).2 : Int) - (lst p r).1)) :: .mu false (.lst (pzs (A ++ ini p r))) :: ρ)
  | [], p, A, s4, s5, s6, h, hm, hA, h4, h5, h6 => ⟨[s4, s5, s6], by rw [ini, List.append_nil]; rfl⟩
  | q :: r, p, A, s4, s5, s6, h, hm, hA, h4, h5, h6 => by
    rw [List.length_cons] at hA
    have hle := h.2.2.2.2.le
    obtain ⟨a1, a2, a3, a4, a5⟩ := h
    have t := sw_turn (ca := ca) (d := d) (s6 := s6) (A := A) (b := p.1) (h := (p.2 : Int) - p.1) (f := q.1) (l := (q.2 : Int) - q.1) (t := (p.2 : Int) - q.1 - 1) (n := q.1 - p.1 + 1) (k := q.2 - p.2 + 1) (by omega) (by omega) (by omega) (by omega) (by omega) (by omega)
    rw [if_neg (by rw [h6]; exact Bool.false_ne_true)] at t
    obtain ⟨ρ, ih⟩ := sw_loop (d := d) r q (A ++ [List.replicate (q.1 - p.1 + 1) 41 ++ List.replicate (q.2 - p.2 + 1) 40]) (.val (.int q.1)) (.val (.int ((q.2 : Int) - q.1))) (.val (.int ((p.2 : Int) - q.1 - 1))) a5 hm (by simp; omega) rfl rfl rfl
    refine ⟨ρ, ?_⟩
    have g : gT 2 (gC (setS 4) (gC (setS 5) gN)) (.tup [.int (q.1 : Nat), .int ((q.2 : Int) - q.1)]) [d, .val (.int (p.1 : Nat)), .val (.int ((p.2 : Int) - p.1)), .mu false (.lst (pzs A)), s4, s5, s6] =
      .ok () [d, .val (.int (p.1 : Nat)), .val (.int ((p.2 : Int) - p.1)), .mu false (.lst (pzs A)), .val (.int q.1), .val (.int ((q.2 : Int) - q.1)), s6] := by simp [h4, h5]
    rw [show rz (rowsZ (q :: r)) = .tup [.int (q.1 : Nat), .int ((q.2 : Int) - q.1)] :: rz (rowsZ r) from rfl, forL_nx g t, ini, lst]
    rw [List.append_assoc] at ih
    exact ih
theorem lst_le : ∀ (r : List (Nat × Nat)) (p : Nat × Nat), Ch p r m → (lst p r).1 < (lst p r).2 ∧ (lst p r).2 = m
  | [], p, h => h
  | q :: r, p, h => lst_le r q h.2.2.2.2
theorem cut1_tup (x : Dv) (l : List Dv) (ρ : VE) (h : l.length ≤ 1000) : pSl (.tup (x :: l)) (some 1) none ρ = .ok (.d (.tup l)) ρ := by
  have z : l.length ≤ sizeLine := szle (by omega)
  have c : cut (x :: l) (some 1) none = l := by
    unfold cut
    rw [show (some (1 : Int)) = some ((1 : Nat) : Int) from rfl, HT.sIx_nat, HT.sIx_none]
    simp
  have q : HT.sIx (l.length + 1) 0 (some 1) = 1 := by
    rw [show (some (1 : Int)) = some ((1 : Nat) : Int) from rfl, HT.sIx_nat]
    omega
  unfold pSl
  simp [c, q]
theorem run_stair_word (h : Stair S m) (hl : S.length ≤ 60) (hm : m ≤ 60) : ∃ ρ, m_stair_word ca [.val (laneD ca (rowsZ S))] = .ok (.d (.str (cd (word S)))) ρ := by
  have l0 : (rowsZ S).length = S.length := by simp [rowsZ]
  have hp := h.pos
  obtain ⟨ρ1, e1⟩ := run_check_staircase (ca := ca) (L := rowsZ S) (by omega) (by omega) (h.lean 1)
  have ls := look_st (ca := ca) (rowsZ S)
  obtain ⟨e, r, rfl, c⟩ := h.ex
  have c0 := c.lt
  have c1 := c.le
  have c2 := lst_le r (0, e) c
  dsimp only at c0 c1
  simp only [List.length_cons] at hl
  obtain ⟨ρ2, e2⟩ := sw_loop (ca := ca) (d := .val (laneD ca (rowsZ ((0, e) :: r)))) r (0, e) [List.replicate e 40] .no .no .no c (by omega) (by simp; omega) rfl rfl rfl
  have ct := fun ρ => cut1_tup (.tup [.int (0 : Nat), .int ((e : Int) - (0 : Nat))]) (rz (rowsZ r)) ρ (by simp [rowsZ]; omega)
  have fl := ini_flat r (0, e)
  have wl := word_len c
  have j := join_pzs ([List.replicate e 40] ++ ini (0, e) r ++ [List.replicate ((lst (0, e) r).2 - (lst (0, e) r).1) 41])
  have fe : ([List.replicate e 40] ++ ini (0, e) r ++ [List.replicate ((lst (0, e) r).2 - (lst (0, e) r).1) 41]).flatten = word ((0, e) :: r) := by
    rw [List.flatten_append, List.flatten_append, List.flatten_singleton, List.flatten_singleton, List.append_assoc, fl]; rfl
  rw [fe] at j
  have j := j (by omega)
  have z1 : (ini (0, e) r).length + 1 < sizeLine := szlt (by rw [ini_length]; omega)
  have b0 : -1000000 ≤ (e : Int) ∧ (e : Int) ≤ 10000 := by omega
  have b1 : -1000000 ≤ ((lst (0, e) r).2 : Int) - (lst (0, e) r).1 ∧ ((lst (0, e) r).2 : Int) - (lst (0, e) r).1 ≤ 10000 := by omega
  have rr : rz (rowsZ ((0, e) :: r)) = .tup [.int (0 : Nat), .int ((e : Int) - (0 : Nat))] :: rz (rowsZ r) := rfl
  have b2 : (((lst (0, e) r).2 : Int) - (lst (0, e) r).1).toNat = (lst (0, e) r).2 - (lst (0, e) r).1 := by omega
  rw [rr] at ls
  generalize laneD ca (rowsZ ((0, e) :: r)) = LL at *
  generalize lst (0, e) r = q at *
  generalize word ((0, e) :: r) = WW at *
  generalize ini (0, e) r = II at *
  have p1 : pzs [List.replicate e 40] = [.str (cd (List.replicate e 40))] := rfl
  rw [p1] at e2
  simp [-x_pJoin] at e2 ct ls j
  simp [m_stair_word, b_stair_word, ls, lit_E, lit_o, lit_c, cd_mul, e1, b0, ct, atI0, walk?, items?, e2, b1, b2, z1, -x_pJoin, j]
end K41
end
section
set_option Elab.async false
set_option linter.all false
set_option maxRecDepth 100000
set_option maxHeartbeats 4000000
namespace K41
open PySem L2 P0
variable {ca : Nat → Addr}
theorem pSl_cd (l : List Nat) (lo hi : Option Int) (h : l.length ≤ 1000000) (ρ : VE) : pSl (.str (cd l)) lo hi ρ = .ok (.d (.str (cd (cut l lo hi)))) ρ := by
  have z : l.length ≤ sizeLine := szle h
  unfold pSl
  simp [z, cd_cut]
theorem cut_to {α : Type} (l : List α) (i : Nat) : cut l none (some (i : Int)) = l.take i := by
  unfold cut
  rw [HT.sIx_nat, HT.sIx_none, List.drop_zero, Nat.sub_zero, List.take_eq_take_iff]
  omega
theorem cut_last {α : Type} (l : List α) : cut l none (some (-1)) = l.take (l.length - 1) := by
  unfold cut
  have : HT.sIx l.length l.length (some (-1)) = l.length - 1 := by
    show (if (-1 : Int) < 0 then ((-1 : Int) + (l.length : Int)).toNat else min (-1 : Int).toNat l.length) = _
    rw [if_pos (by decide)]
    omega
  rw [this, HT.sIx_none, List.drop_zero, Nat.sub_zero]
variable {S : List (Nat × Nat)} {m : Nat}
/-! ### _law_word_of -/
theorem lwo_turn {RR : List Dv} {A : List Nat} {s3 s4 s5 : Sl} {b h f l t : Int} {k n j : Nat} (a1 : atI RR (k : Int) = some (.tup [.int b, .int h])) (a2 : atI RR ((k : Int) + 1) = some (.tup [.int f, .int l]))
    (ht : b + h - f - 1 = t) (hn : h - t = n) (hj : l - t = j) (n1 : n ≤ 1000) (j1 : j ≤ 1000) (ha : A.length ≤ 200000) (h3 : isIo (some s3) = false) (h4 : isIo (some s4) = false) (h5 : isIo (some s5) = false) :
    ∃ s3' s4' s5', isIo (some s3') = false ∧ isIo (some s4') = false ∧ isIo (some s5') = false ∧ L1__law_word_of ca [.val (.lst RR), .val (.str (cd A)), .val (.int (k : Int)), s3, s4, s5] =
      .ok .nx [.val (.lst RR), .val (.str (cd (A ++ (List.replicate n 41 ++ List.replicate j 40)))), .val (.int (k : Int)), s3', s4', s5'] := by
  have b1 : -1000000 ≤ (n : Int) ∧ (n : Int) ≤ 10000 := by omega
  have b2 : -1000000 ≤ (j : Int) ∧ (j : Int) ≤ 10000 := by omega
  have z3 : A.length + n ≤ sizeLine := szle (by omega)
  have z4 : A.length + n + j ≤ sizeLine := szle (by omega)
  have z5 : A.length + (n + j) ≤ sizeLine := szle (by omega)
  refine ⟨.val (.tup [.int b, .int h]), .val (.tup [.int f, .int l]), .val (.int t), rfl, rfl, rfl, ?_⟩
  simp [L1__law_word_of, lit_o, lit_c, cd_mul, a1, a2, atI0, atI1, ht, hn, hj, z3, z4, z5, b1, b2, h3, h4, h5]
theorem lwo_loop : ∀ (r : List (Nat × Nat)) (p : Nat × Nat) (T : List (Nat × Nat)) (A : List Nat) (s2 s3 s4 s5 : Sl), S = T ++ p :: r → Ch p r m → m ≤ 500 → S.length ≤ 100 → A.length ≤ 1000 * T.length + 1000 → isIo (some s2) = false → isIo (some s3) = false → isIo (some s4) = false → isIo (some s5) = false →
    ∃ ρ, forL (setS 2) (L1__law_word_of ca) (rng T.length r.length) [.val (.lst (rz (rowsZ S))), .val (.str (cd A)), s2, s3, s4, s5] =
      .ok .nx (.val (.lst (rz (rowsZ S))) :: .val (.str (cd (A ++ (ini p r).flatten))) :: ρ)
  | [], p, T, A, s2, s3, s4, s5, hS, h, hm, hT, hA, _, _, _, _ => ⟨[s2, s3, s4, s5], by rw [ini, List.flatten_nil, List.append_nil]; rfl⟩
  | q :: r, p, T, A, s2, s3, s4, s5, hS, h, hm, hT, hA, h2, h3, h4, h5 => by
    have hle := h.2.2.2.2.le
    obtain ⟨c1, c2, c3, c4, c5⟩ := h
    have lS : S.length = T.length + (r.length + 1 + 1) := by rw [hS]; simp
    have gp : (rowsZ S)[T.length]? = some ((p.1 : Int), (p.2 : Int) - p.1) := by rw [hS]; simp [rowsZ]
    have gq : (rowsZ S)[T.length + 1]? = some ((q.1 : Int), (q.2 : Int) - q.1) := by rw [hS]; simp [rowsZ]
    have a1 := rz_at _ gp
    have a2 := rz_at _ gq
    have q1 : ((T.length + 1 : Nat) : Int) = (T.length : Int) + 1 := by omega
    rw [q1] at a2
    obtain ⟨s3', s4', s5', k3, k4, k5, t⟩ := lwo_turn (ca := ca) (A := A) (s3 := s3) (s4 := s4) (s5 := s5) (t := (p.2 : Int) - q.1 - 1) (n := q.1 - p.1 + 1) (j := q.2 - p.2 + 1) a1 a2 (by dsimp only; omega) (by dsimp only; omega) (by dsimp only; omega) (by omega) (by omega) (by omega) h3 h4 h5
    obtain ⟨ρ, ih⟩ := lwo_loop r q (T ++ [p]) (A ++ (List.replicate (q.1 - p.1 + 1) 41 ++ List.replicate (q.2 - p.2 + 1) 40)) (.val (.int T.length)) s3' s4' s5' (by rw [hS]; simp) c5 hm hT (by simp; omega) rfl k3 k4 k5
    refine ⟨ρ, ?_⟩
    rw [List.length_cons, rng_succ, forL_nx (run_setS (by simp) (by simp [h2])) t, ini, List.flatten_cons]
    rw [List.length_append, List.length_singleton, List.append_assoc] at ih
    exact ih
theorem run_lwo (h : Stair S m) (hl : S.length ≤ 60) (hm : m ≤ 60) : ∃ ρ, m__law_word_of ca [.val (.lst (rz (rowsZ S)))] = .ok (.d (.str (cd (word S)))) ρ := by
  have l0 : (rowsZ S).length = S.length := by simp [rowsZ]
  obtain ⟨T, f, eT, hf⟩ := rowsZ_last h
  have la : atI (rz (rowsZ S)) (-1) = some (.tup [.int (f : Int), .int ((m : Int) - f)]) := by
    rw [eT, rowsZ, List.map_append]
    exact at_rows _ _
  obtain ⟨e, r, hS, c⟩ := h.ex
  have c0 := c.lt
  have c1 := c.le
  have c2 := lst_le r (0, e) c
  dsimp only at c0 c1
  have lr : S.length = r.length + 1 := by rw [hS]; rfl
  obtain ⟨ρ2, e2⟩ := lwo_loop (ca := ca) (S := S) r (0, e) [] (List.replicate e 40) .no .no .no .no hS c (by omega) (by omega) (by simp; omega) rfl rfl rfl rfl
  have a0 := rz_at (rowsZ S) (i := 0) (p := ((0 : Nat), (e : Int) - (0 : Nat))) (by rw [hS]; rfl)
  have fl := ini_flat r (0, e)
  have fm : (lst (0, e) r).1 = f := by
    have : ∀ (r : List (Nat × Nat)) (p : Nat × Nat) (T : List (Nat × Nat)) (x : Nat × Nat), p :: r = T ++ [x] → lst p r = x := by
      intro r
      induction r with
      | nil =>
        intro p T x hh
        cases T with
        | nil => simp at hh; exact hh
        | cons a T => simp at hh
      | cons q r ih =>
        intro p T x hh
        cases T with
        | nil => simp at hh
        | cons a T => simp at hh; exact ih q T x hh.2
    rw [this r (0, e) T (f, m) (by rw [← hS, eT])]
  have fe : List.replicate e 40 ++ ((ini (0, e) r).flatten ++ List.replicate (m - f) 41) = word S := by
    rw [hS, word, ← fl, fm, c2.2]; rfl
  have wl := word_len c
  rw [← hS] at wl
  have b0 : -1000000 ≤ (e : Int) ∧ (e : Int) ≤ 10000 := by omega
  have b1 : -1000000 ≤ (m : Int) - f ∧ (m : Int) - f ≤ 10000 := by omega
  have b2 : ((m : Int) - f).toNat = m - f := by omega
  have r1 : R62 ((S.length : Int) - 1) := r62 (by omega) (by omega)
  have r2 : ((S.length : Int) - 1).toNat = r.length := by omega
  have fz := congrArg List.length fe
  simp only [List.length_append, List.length_replicate] at fz
  have z1 : e + ((ini (0, e) r).flatten.length + (m - f)) ≤ sizeLine := szle (by omega)
  have z2 : e + (ini (0, e) r).flatten.length + (m - f) ≤ sizeLine := szle (by omega)
  have lR : (rz (rowsZ S)).length = S.length := by rw [rz_length, l0]
  have fe2 : List.replicate e 40 ++ (ini (0, e) r).flatten ++ List.replicate (m - f) 41 = word S := by rw [List.append_assoc]; exact fe
  simp only [List.length_nil] at e2
  generalize rz (rowsZ S) = RR at *
  generalize (ini (0, e) r).flatten = II at *
  have b0' : (e : Int) ≤ 10000 := b0.2
  have z3 : (m : Int) ≤ 10000 + f := by omega
  simp at a0 e2
  simp [m__law_word_of, b__law_word_of, lit_o, lit_c, cd_mul, a0, la, atI0, atI1, b0', lR, r1, r2, e2, b1, b2, z1, z2, z3, fe]
end K41
end
section
set_option Elab.async false
set_option linter.all false
set_option maxRecDepth 100000
set_option maxHeartbeats 4000000
namespace K41
open PySem L2 P0
variable {ca : Nat → Addr}
variable {S : List (Nat × Nat)} {m : Nat}
/-! ### _law_heights -/
theorem cut_mid {α : Type} (A : List α) (x y : α) (r : List α) (i j : Int) (hi : i = (A.length : Int)) (hj : j = (A.length : Int) + 2) : cut (A ++ x :: y :: r) (some i) (some j) = [x, y] := by
  unfold cut
  rw [hi, hj, HT.sIx_nat, show (A.length : Int) + 2 = ((A.length + 2 : Nat) : Int) by omega, HT.sIx_nat]
  rw [Nat.min_eq_left (by simp), Nat.min_eq_left (by simp), List.drop_left, show A.length + 2 - A.length = 2 by omega]
  rfl
theorem cut_pre {α : Type} (A : List α) (x : α) (r : List α) (i : Int) (hi : i = (A.length : Int) + 1) : cut (A ++ x :: r) none (some i) = A ++ [x] := by
  rw [hi, show (A.length : Int) + 1 = ((A.length + 1 : Nat) : Int) by omega, cut_to, show A ++ x :: r = (A ++ [x]) ++ r by simp, List.take_left' (by simp)]
def pz (A : List Nat) : Int := (A.count 40 : Nat) - (A.count 41 : Nat)
theorem pz_snoc (A : List Nat) (x : Nat) (h : x = 40 ∨ x = 41) : pz (A ++ [x]) = pz A + if x = 40 then 1 else -1 := by
  unfold pz
  rcases h with rfl | rfl <;> simp [List.count_append, List.count_singleton] <;> omega
theorem lh_turn {a b x y : Nat} {A r : List Nat} {acc : List Int} (hw : (A ++ x :: y :: r).length ≤ 1000) (hacc : acc.length ≤ 1000) :
    L1__law_heights ca [.val (.str (cd (A ++ x :: y :: r))), .val (.str (cd [a, b])), .mu false (.lst (iz acc)), .val (.int ((A.length : Int) + 1))] =
      .ok .nx [.val (.str (cd (A ++ x :: y :: r))), .val (.str (cd [a, b])), .mu false (.lst (iz (acc ++ if some x = some a ∧ y = b then [pz (A ++ [x])] else []))), .val (.int ((A.length : Int) + 1))] := by
  have z : acc.length < sizeLine := szlt (by omega)
  have c1 := cut_mid A x y r ((A.length : Int) + 1 - 1) ((A.length : Int) + 1 + 1) (by omega) (by omega)
  have c2 := cut_pre A x (y :: r) ((A.length : Int) + 1) rfl
  have p1 := fun lo hi ρ => pSl_cd (A ++ x :: y :: r) lo hi (by omega) ρ
  generalize A ++ x :: y :: r = W at *
  have q1 : ((A.length : Int) + 1 - 1) = A.length := by omega
  rw [q1] at c1
  by_cases h : some x = some a ∧ y = b
  · have hh : pz (A ++ [x]) = ((A ++ [x]).count 40 : Nat) - ((A ++ [x]).count 41 : Nat) := rfl
    rw [if_pos h]
    simp only [L1__law_heights, lit_o, lit_c]
    obtain ⟨h1, rfl⟩ := h
    have h2 : x = a := Option.some.inj h1
    subst h2
    generalize hA : A ++ [x] = AA at *
    simp [p1, c1, c2, z, cd_count, hh]
  · rw [if_neg h]
    have h' : ¬ (x = a ∧ y = b) := fun p => h ⟨congrArg some p.1, p.2⟩
    simp [L1__law_heights, p1, c1, c2, z, h']
theorem lh_loop {a b : Nat} : ∀ (r : List Nat) (x : Nat) (A : List Nat) (acc : List Int) (W : List Nat) (s3 : Sl), W = A ++ x :: r → W.length ≤ 1000 → (∀ c ∈ r, c = 40 ∨ c = 41) → acc.length + r.length ≤ 1000 → isIo (some s3) = false →
    ∃ ρ, forL (setS 3) (L1__law_heights ca) (rng ((A.length : Int) + 1) r.length) [.val (.str (cd W)), .val (.str (cd [a, b])), .mu false (.lst (iz acc)), s3] =
      .ok .nx (.val (.str (cd W)) :: .val (.str (cd [a, b])) :: .mu false (.lst (iz (acc ++ hts a b (some x) (pz (A ++ [x])) r))) :: ρ)
  | [], x, A, acc, W, s3, hW, hl, hr, ha, h3 => ⟨[s3], by rw [hts, List.append_nil]; rfl⟩
  | y :: r, x, A, acc, W, s3, hW, hl, hr, ha, h3 => by
    rw [List.length_cons] at ha
    have t := lh_turn (ca := ca) (a := a) (b := b) (x := x) (y := y) (A := A) (r := r) (acc := acc) (by rw [← hW]; exact hl) (by omega)
    rw [← hW] at t
    obtain ⟨ρ, ih⟩ := lh_loop (a := a) (b := b) r y (A ++ [x]) (acc ++ if some x = some a ∧ y = b then [pz (A ++ [x])] else []) W (.val (.int ((A.length : Int) + 1))) (by rw [hW]; simp) hl (fun c hc => hr c (List.mem_cons_of_mem _ hc)) (by rw [List.length_append]; split <;> simp <;> omega) rfl
    refine ⟨ρ, ?_⟩
    rw [List.length_cons, rng_succ, forL_nx (run_setS (by simp) (by simp [h3])) t, hts, ← List.append_assoc]
    rw [pz_snoc (A ++ [x]) y (hr y List.mem_cons_self), List.length_append, List.length_singleton] at ih
    exact ih
theorem run_lh (a b : Nat) {w : List Nat} (hl : w.length ≤ 1000) (hw : ∀ c ∈ w, c = 40 ∨ c = 41) : ∃ ρ, m__law_heights ca [.val (.str (cd w)), .val (.str (cd [a, b]))] = .ok (.fr (.lst (iz (hts a b none 0 w)))) ρ := by
  have ql := qLen_cd w hl
  have r1 : R62 (w.length : Int) := r62n (by omega)
  cases w with
  | nil =>
    have : rng 1 (((0 : Nat) : Int) - 1).toNat = [] := rfl
    simp at ql
    simp [m__law_heights, b__law_heights, ql, this, rng_zero, forL_nil, hts]
  | cons x r =>
    simp only [List.length_cons] at hl
    obtain ⟨ρ, e⟩ := lh_loop (ca := ca) (a := a) (b := b) r x [] [] (x :: r) .no rfl (by simp; omega) (fun c hc => hw c (List.mem_cons_of_mem _ hc)) (by simp; omega) rfl
    have g : (((x :: r).length : Int) - 1).toNat = r.length := by simp
    have e' : forL (setS 3) (L1__law_heights ca) (rng 1 r.length) [.val (.str (cd (x :: r))), .val (.str (cd [a, b])), .mu false (.lst []), .no] = _ := e
    have h0 : hts a b none 0 (x :: r) = hts a b (some x) (pz ([] ++ [x])) r := by
      rw [hts, if_neg (by rintro ⟨h, _⟩; cases h), pz_snoc [] x (hw x List.mem_cons_self)]; rfl
    rw [h0]
    generalize x :: r = W at *
    simp [m__law_heights, b__law_heights, ql, r1, g, e']
/-! ### _law_stairs_of -/
theorem iz_at {l : List Int} {k : Nat} {z : Int} (h : l[k]? = some z) : atI (iz l) (k : Int) = some (.int z) := by
  refine atI_get ?_
  unfold iz
  rw [List.getElem?_map, h]; rfl
theorem lso_turn {d s5 : Sl} {HH LL RR : List Dv} {f l lo h : Int} {k : Nat} (a1 : atI RR (-1) = some (.tup [.int f, .int l])) (a2 : atI LL (k : Int) = some (.int lo)) (a3 : atI HH ((k : Int) + 1) = some (.int h)) (hR : RR.length ≤ 1000) (h5 : isIo (some s5) = false) :
    L1__law_stairs_of ca [d, .mu false (.lst HH), .mu false (.lst LL), .mu false (.lst RR), .val (.int (k : Int)), s5] =
      .ok .nx [d, .mu false (.lst HH), .mu false (.lst LL), .mu false (.lst (RR ++ [.tup [.int (f + l - lo - 1), .int h]])), .val (.int (k : Int)), .val (.int (f + l))] := by
  have z : RR.length < sizeLine := szlt (by omega)
  simp [L1__law_stairs_of, a1, a2, a3, atI0, atI1, z, h5]
def lowS : List (Nat × Nat) → List Int
  | [] => []
  | p :: r => low p r
theorem low_len : ∀ (r : List (Nat × Nat)) (p : Nat × Nat), (low p r).length = r.length
  | [], _ => rfl
  | q :: r, p => by rw [low, List.length_cons, low_len r q, List.length_cons]
theorem lowS_at : ∀ (T : List (Nat × Nat)) (p q : Nat × Nat) (r : List (Nat × Nat)), (lowS (T ++ p :: q :: r))[T.length]? = some ((p.2 : Int) - q.1 - 1)
  | [], p, q, r => rfl
  | [a], p, q, r => rfl
  | a :: b :: T, p, q, r => lowS_at (b :: T) p q r
theorem lso_loop {d : Sl} : ∀ (r : List (Nat × Nat)) (p : Nat × Nat) (T : List (Nat × Nat)) (s4 s5 : Sl), S = T ++ p :: r → S.length ≤ 500 → isIo (some s4) = false → isIo (some s5) = false →
    ∃ ρ, forL (setS 4) (L1__law_stairs_of ca) (rng T.length r.length) [d, .mu false (.lst (iz (hz S))), .mu false (.lst (iz (lowS S))), .mu false (.lst (rz (rowsZ (T ++ [p])))), s4, s5] =
      .ok .nx (d :: .mu false (.lst (iz (hz S))) :: .mu false (.lst (iz (lowS S))) :: .mu false (.lst (rz (rowsZ S))) :: ρ)
  | [], p, T, s4, s5, hS, hl, _, _ => ⟨[s4, s5], by rw [hS]; rfl⟩
  | q :: r, p, T, s4, s5, hS, hl, h4, h5 => by
    have lS : S.length = T.length + (r.length + 1 + 1) := by rw [hS]; simp
    have gq : S[T.length + 1]? = some q := by rw [hS, List.getElem?_append_right (by omega), show T.length + 1 - T.length = 1 by omega]; rfl
    have a3 := hz_at gq
    have q1 : ((T.length + 1 : Nat) : Int) = (T.length : Int) + 1 := by omega
    rw [q1] at a3
    have a2 := iz_at (l := lowS S) (k := T.length) (z := (p.2 : Int) - q.1 - 1) (by rw [hS]; exact lowS_at T p q r)
    have a1 : atI (rz (rowsZ (T ++ [p]))) (-1) = some (.tup [.int (p.1 : Int), .int ((p.2 : Int) - p.1)]) := by
      rw [rowsZ, List.map_append]
      exact at_rows _ _
    have t := lso_turn (ca := ca) (d := d) (s5 := s5) (k := T.length) a1 a2 a3 (by simp [rowsZ]; omega) h5
    have sn := rowsZ_snoc (T ++ [p]) q.1 q.2
    rw [show (p.1 : Int) + ((p.2 : Int) - p.1) - ((p.2 : Int) - q.1 - 1) - 1 = q.1 by omega, sn] at t
    obtain ⟨ρ, ih⟩ := lso_loop (d := d) r q (T ++ [p]) (.val (.int T.length)) (.val (.int ((p.1 : Int) + ((p.2 : Int) - p.1)))) (by rw [hS]; simp) hl rfl rfl
    refine ⟨ρ, ?_⟩
    rw [List.length_cons, rng_succ, forL_nx (run_setS (by simp) (by simp [h4])) t]
    rw [List.length_append, List.length_singleton] at ih
    exact ih
theorem word_mem {e : Nat} {r : List (Nat × Nat)} (c : Ch (0, e) r m) : ∀ x ∈ word ((0, e) :: r), x = 40 ∨ x = 41 := rd_mem _ 0 0 ((flt_rd _).mp (word_flt c))
theorem run_lso (h : Stair S m) (hl : S.length ≤ 120) (hm : m ≤ 120) : ∃ ρ, m__law_stairs_of ca [.val (.str (cd (word S)))] = .ok (.fr (.lst (rz (rowsZ S)))) ρ := by
  obtain ⟨e, r, hS, c⟩ := h.ex
  have wl := word_len c
  have wm := word_mem c
  have t1 := tops_word c none
  have t2 := bots_word c none (by simp)
  rw [← hS] at wl wm t1 t2
  have lr : S.length = r.length + 1 := by rw [hS]; rfl
  obtain ⟨ρ1, e1⟩ := run_lh (ca := ca) 40 41 (w := word S) (by omega) wm
  obtain ⟨ρ2, e2⟩ := run_lh (ca := ca) 41 40 (w := word S) (by omega) wm
  rw [t1] at e1
  rw [t2] at e2
  change m__law_heights ca [.val (.str (cd (word S))), .val (.str (cd [40, 41]))] = .ok (.fr (.lst (iz (hz S)))) ρ1 at e1
  have e2' : m__law_heights ca [.val (.str (cd (word S))), .val (.str (cd [41, 40]))] = .ok (.fr (.lst (iz (lowS S)))) ρ2 := by rw [e2, hS]; rfl
  have a0 : atI (iz (hz S)) 0 = some (.int (e : Int)) := by
    have := hz_at (S := S) (i := 0) (q := (0, e)) (by rw [hS]; rfl)
    simpa using this
  obtain ⟨ρ3, e3⟩ := lso_loop (ca := ca) (d := .val (.str (cd (word S)))) r (0, e) [] .no .no hS (by omega) rfl rfl
  have ll : (lowS S).length = r.length := by rw [hS]; exact low_len r _
  have r0 : rz (rowsZ ([] ++ [(0, e)])) = [.tup [.int 0, .int (e : Int)]] := by simp [rz, rowsZ]
  rw [r0] at e3
  have r1 : R62 (r.length : Int) := r62n (by omega)
  have lL : (iz (lowS S)).length = r.length := by rw [iz_length, ll]
  generalize word S = W at *
  generalize iz (hz S) = HH at *
  generalize iz (lowS S) = LL at *
  generalize rz (rowsZ S) = RR at *
  simp at e3
  simp [m__law_stairs_of, b__law_stairs_of, lit_oc, lit_co, e1, e2', a0, lL, r1, e3]
end K41
end
section
set_option Elab.async false
set_option linter.all false
set_option maxRecDepth 100000
set_option maxHeartbeats 4000000
namespace K41
open PySem L2 P0
variable {ca : Nat → Addr}
variable {S : List (Nat × Nat)} {m : Nat}
/-! ### _law_fault -/
def fW (w : List Nat) : Dv → Bool
  | .int k => !isB (w.getD k.toNat 40)
  | _ => false
theorem filt_bad : ∀ (r A w : List Nat), w = A ++ r → ∃ rest, (rng (A.length : Int) r.length).filter (fW w) = match badB A.length r with
    | none => []
    | some j => .int j :: rest
  | [], A, w, _ => ⟨[], rfl⟩
  | c :: r, A, w, hw => by
    obtain ⟨rest, ih⟩ := filt_bad r (A ++ [c]) w (by rw [hw]; simp)
    have hf : fW w (.int (A.length : Int)) = !isB c := by
      show (!isB (w.getD ((A.length : Int)).toNat 40)) = _
      rw [Int.toNat_natCast, hw, List.getD_eq_getElem?_getD, List.getElem?_append_right (Nat.le_refl _), Nat.sub_self]; rfl
    rw [List.length_cons, rng_succ, badB]
    rw [List.length_append, List.length_singleton] at ih
    have q1 : ((A.length + 1 : Nat) : Int) = (A.length : Int) + 1 := by omega
    rw [q1] at ih
    by_cases hc : isB c = true
    · refine ⟨rest, ?_⟩
      rw [List.filter_cons_of_neg (by rw [hf, hc]; decide), if_pos hc, ih]
    · refine ⟨(rng ((A.length : Int) + 1) r.length).filter (fW w), ?_⟩
      rw [List.filter_cons_of_pos (by rw [hf]; simpa using hc), if_neg hc]
theorem cd_at {w : List Nat} {k c : Nat} (h : w[k]? = some c) (hl : w.length ≤ 1000) (ρ : VE) : pIx (.str (cd w)) (.int (k : Int)) ρ = .ok (.d (.str (cd [c]))) ρ := by
  rw [cd_ix w k (by omega), atI_get h]
theorem lf_comp {w : List Nat} (hl : w.length ≤ 1000) : compL [3] (setS 3) (T1__law_fault ca) (E1__law_fault ca) (rng 0 w.length) [] [.val (.str (cd w)), .no, .no, .no] = .ok ((rng 0 w.length).filter (fW w)) [.val (.str (cd w)), .no, .no, .no] := by
  have c := compL_gen (vs := [3]) (mg := setS 3) (mt := T1__law_fault ca) (me := E1__law_fault ca) (ρ0 := [.val (.str (cd w)), .no, .no, .no]) (fW w) id (fun d => [.val (.str (cd w)), .no, .no, .val d]) (rng 0 w.length) [] [.val (.str (cd w)), .no, .no, .no] rfl rfl
    (fun d hd => by
      unfold rng at hd
      obtain ⟨k, hk, rfl⟩ := List.mem_map.mp hd
      have hk := List.mem_range.mp hk
      have g : w[k]? = some w[k] := List.getElem?_eq_getElem hk
      have ix := fun ρ => cd_at g hl ρ
      have i := fun ρ => in_oc true w[k] ρ
      have hf : fW w (.int (0 + (k : Int))) = !isB w[k] := by
        show (!isB (w.getD ((0 + (k : Int))).toNat 40)) = _
        rw [show (0 + (k : Int)).toNat = k by omega, List.getD_eq_getElem?_getD, g]; rfl
      refine ⟨by simp, ?_, fun _ => ?_, rfl, rfl⟩
      · rw [hf]
        simp [T1__law_fault, lit_oc, -x_pIn, i, ix]
      · simp [E1__law_fault])
    (by rw [List.length_nil, Nat.zero_add, rng_length]; exact szlt (by omega))
  rw [List.nil_append, List.map_id] at c
  exact c
theorem lf_loop {s1 : Sl} {w : List Nat} (hl : w.length ≤ 1000) (hb : badB 0 w = none) : ∀ (r A : List Nat) (h : Nat) (s3 : Sl), w = A ++ r → (∀ c ∈ r, c = 40 ∨ c = 41) → isIo (some s3) = false →
    ∃ s3' ρ, forL (setS 3) (L1__law_fault ca) (rng A.length r.length) [.val (.str (cd w)), s1, .val (.int h), s3] = match bal A.length h r with
      | .inr g => .ok .nx [.val (.str (cd w)), s1, .val (.int g), s3']
      | .inl (some j) => .ok (.rt (.d (.int j))) ρ
      | .inl none => .bad
  | [], A, h, s3, _, _, _ => ⟨s3, [], rfl⟩
  | c :: r, A, h, s3, hw, hr, h3 => by
    have g : w[A.length]? = some c := by rw [hw, List.getElem?_append_right (Nat.le_refl _), Nat.sub_self]; rfl
    have ix := fun ρ => cd_at g hl ρ
    have q1 : ((A.length + 1 : Nat) : Int) = (A.length : Int) + 1 := by omega
    have cm1 : CMulW 2 1 := by decide +kernel
    have cm0 : CMulW 2 0 := by decide +kernel
    rw [List.length_cons, rng_succ, bal]
    by_cases hc : c = 41
    · subst hc
      rw [if_pos rfl]
      by_cases hh : h = 0
      · subst hh
        have b : L1__law_fault ca [.val (.str (cd w)), s1, .val (.int (0 : Nat)), .val (.int A.length)] = .ok (.rt (.d (.int A.length))) [.val (.str (cd w)), s1, .val (.int (0 : Nat)), .val (.int A.length)] := by
          simp [L1__law_fault, lit_c, ix]
        rw [forL_rt (run_setS (by simp) (by simp [h3])) b, if_pos rfl]
        exact ⟨.no, _, rfl⟩
      · have q : ((h - 1 : Nat) : Int) = (h : Int) + 1 - 2 * 1 := by omega
        have b : L1__law_fault ca [.val (.str (cd w)), s1, .val (.int h), .val (.int A.length)] = .ok .nx [.val (.str (cd w)), s1, .val (.int (h - 1 : Nat)), .val (.int A.length)] := by
          rw [q]
          simp [L1__law_fault, lit_c, ix, hh, cm1]
        rw [forL_nx (run_setS (by simp) (by simp [h3])) b, if_neg hh]
        obtain ⟨s3', ρ, ih⟩ := lf_loop hl hb r (A ++ [41]) (h - 1) (.val (.int A.length)) (by rw [hw]; simp) (fun x hx => hr x (List.mem_cons_of_mem _ hx)) rfl
        rw [List.length_append, List.length_singleton, q1] at ih
        exact ⟨s3', ρ, ih⟩
    · have hc40 : c = 40 := by
        rcases hr c List.mem_cons_self with h | h
        · exact h
        · exact absurd h hc
      subst hc40
      have b : L1__law_fault ca [.val (.str (cd w)), s1, .val (.int h), .val (.int A.length)] = .ok .nx [.val (.str (cd w)), s1, .val (.int (h + 1 : Nat)), .val (.int A.length)] := by
        simp [L1__law_fault, lit_c, ix, cm0]
      rw [forL_nx (run_setS (by simp) (by simp [h3])) b, if_neg (by decide), if_pos rfl]
      obtain ⟨s3', ρ, ih⟩ := lf_loop hl hb r (A ++ [40]) (h + 1) (.val (.int A.length)) (by rw [hw]; simp) (fun x hx => hr x (List.mem_cons_of_mem _ hx)) rfl
      rw [List.length_append, List.length_singleton, q1] at ih
      exact ⟨s3', ρ, ih⟩
theorem badB_all : ∀ (w : List Nat) (k : Nat), badB k w = none → ∀ c ∈ w, c = 40 ∨ c = 41
  | [], _, _, c, hc => by cases hc
  | a :: w, k, h, c, hc => by
    rw [badB] at h
    split at h
    · rename_i ha
      rcases List.mem_cons.mp hc with rfl | hc
      · simpa [isB] using ha
      · exact badB_all w _ h c hc
    · cases h
def fI : Option Nat → Int
  | none => -1
  | some j => j
theorem run_lf {w : List Nat} (hl : w.length ≤ 1000) : ∃ ρ, m__law_fault ca [.val (.str (cd w))] = .ok (.d (.int (fI (flt w)))) ρ := by
  have ql := qLen_cd w hl
  have r1 : R62 (w.length : Int) := r62n (by omega)
  have c := lf_comp (ca := ca) hl
  obtain ⟨rest, f⟩ := filt_bad w [] w rfl
  have f' : (rng 0 w.length).filter (fW w) = _ := f
  rw [f'] at c
  unfold flt
  cases hb : badB 0 w with
  | some j =>
    simp only [List.length_nil, hb] at c
    simp [m__law_fault, b__law_fault, ql, r1, c, atI0, fI]
  | none =>
    simp only [List.length_nil, hb] at c
    obtain ⟨s3', ρ, e⟩ := lf_loop (ca := ca) (s1 := .mu false (.lst [])) hl hb w [] 0 .no rfl (badB_all w 0 hb) rfl
    have e' : forL (setS 3) (L1__law_fault ca) (rng 0 w.length) [.val (.str (cd w)), .mu false (.lst []), .val (.int 0), .no] = _ := e
    simp only [List.length_nil] at e'
    cases hh : bal 0 0 w with
    | inl j =>
      cases j with
      | none => exact absurd hh (bal_no w 0 0)
      | some j =>
        simp only [hh] at e'
        simp [m__law_fault, b__law_fault, ql, r1, c, e', fI]
    | inr g =>
      simp only [hh] at e'
      by_cases h0 : 0 < g
      · have h0' : (0 : Int) < g := by omega
        simp [m__law_fault, b__law_fault, ql, r1, c, e', h0, h0', fI]
      · have h0' : g = 0 := by omega
        simp [m__law_fault, b__law_fault, ql, r1, c, e', h0', fI]
end K41
end
section
set_option Elab.async false
set_option linter.all false
set_option maxRecDepth 100000
set_option maxHeartbeats 4000000
namespace K41
open PySem L2 P0
variable {ca : Nat → Addr}
variable {S : List (Nat × Nat)} {m : Nat}
/-! ### _law_read, _law_due -/
theorem hts_mem (a b : Nat) : ∀ (w : List Nat) (l : Option Nat) (z : Int), ∀ x ∈ hts a b l z w, z - w.length ≤ x ∧ x ≤ z + w.length
  | [], l, z, x, hx => by cases hx
  | c :: w, l, z, x, hx => by
    rw [hts] at hx
    rw [List.length_cons]
    rcases List.mem_append.mp hx with hx | hx
    · split at hx
      · rw [List.mem_singleton.mp hx]; omega
      · cases hx
    · have := hts_mem a b w (some c) _ x hx
      split at this <;> omega
theorem hts_len (a b : Nat) : ∀ (w : List Nat) (l : Option Nat) (z : Int), (hts a b l z w).length ≤ w.length
  | [], l, z => Nat.le_refl _
  | c :: w, l, z => by
    have := hts_len a b w (some c) (z + if c = 40 then 1 else -1)
    rw [hts, List.length_append, List.length_cons]
    split <;> simp <;> omega
theorem sh_hts {a b : Nat} {w : List Nat} (hl : w.length ≤ 1000) : Sh [.str "told", .lst (iz (hts a b none 0 w))] := by
  have s0 : PyData.strOk "told" = true ∧ ("told" : Str).cps.size ≤ 10 := by decide +kernel
  have hb := hts_len a b w none 0
  refine ⟨?_, ?_, ?_, ?_⟩
  · simp [isDts, isDt, s0.1]
  · simp [dpDs, dpD]
  · have := showable_iz (l := hts a b none 0 w) (fun z hz => by
      have := hts_mem a b w none 0 z hz
      exact Nat.lt_of_le_of_lt (show z.natAbs ≤ 1000 by omega) (Nat.lt_of_lt_of_le (show 1000 < 2 ^ 10 by decide) (Nat.pow_le_pow_right (by decide) (by decide))))
    simp [toPys, toPy, PyData.showableAll, PyData.showable, this]
  · have := s0.2
    simp only [toPys, toPy, PyData.bulkAll, PyData.bulk, bulk_iz]
    omega
theorem ix3 (a b c : Dv) : atI [a, b, c] 0 = some a ∧ atI [a, b, c] 1 = some b ∧ atI [a, b, c] 2 = some c := ⟨atI_get (i := 0) rfl, atI_get (i := 1) rfl, atI_get (i := 2) rfl⟩
theorem ix2 (a b : Dv) : atI [a, b] 0 = some a ∧ atI [a, b] 1 = some b := ⟨atI_get (i := 0) rfl, atI_get (i := 1) rfl⟩
theorem badB_le : ∀ (w : List Nat) (k j : Nat), badB k w = some j → j ≤ k + w.length
  | [], _, _, h => by cases h
  | c :: w, k, j, h => by
    rw [badB] at h
    rw [List.length_cons]
    split at h
    · have := badB_le w _ _ h; omega
    · cases h; omega
theorem bal_le : ∀ (w : List Nat) (k h j : Nat), bal k h w = .inl (some j) → j ≤ k + w.length
  | [], _, _, _, h => by simp [bal] at h
  | c :: w, k, h, j, e => by
    rw [bal] at e
    rw [List.length_cons]
    split at e
    · split at e
      · simp at e; omega
      · have := bal_le w _ _ _ e; omega
    · have := bal_le w _ _ _ e; omega
theorem flt_le {w : List Nat} {j : Nat} (h : flt w = some j) : j ≤ w.length := by
  unfold flt at h
  split at h
  · rename_i b
    cases h
    have := badB_le w 0 j b; omega
  · split at h
    · rename_i b
      rw [h] at b
      have := bal_le w 0 0 j b; omega
    · split at h
      · cases h; omega
      · cases h
/-- what is due of a text -/
structure Duo (ca : Nat → Addr) (z : Int) (w : List Nat) : Prop where
  ex : ∃ D, (∃ ρ, m__law_read ca [.val (.int z), .val (.str (cd w))] = .ok (.fr (.lst D)) ρ) ∧ (∃ ρ, m__law_due ca [.val (.int z), .val (.str (cd w))] = .ok (.fr (.lst D)) ρ) ∧ Sh D
theorem duo0 {w : List Nat} (hl : w.length ≤ 1000) : Duo ca 0 w := by
  have ql := qLen_cd w hl
  obtain ⟨x1, x2⟩ := exc_tops (ca := ca) hl
  obtain ⟨ρf, ef⟩ := run_lf (ca := ca) hl
  obtain ⟨i1, _, _⟩ := ix3 (.int 240) (.int 240) (.int 120)
  obtain ⟨i4, _⟩ := ix2 (.str (cd [40, 41])) (.str (cd [41, 40]))
  by_cases h : 240 < w.length
  · obtain ⟨ρ, e⟩ := x1 h
    have h' : (240 : Int) < w.length := by omega
    exact ⟨[.str "size", .int w.length, .bl false], by simp [m__law_read, b__law_read, e], by simp [m__law_due, b__law_due, ql, atI0, i1, h'], sh_3 (by decide +kernel) (by omega) (by omega)⟩
  · have h' : ¬ (240 : Int) < w.length := by omega
    cases hf : flt w with
    | some j =>
      obtain ⟨ρ, e⟩ := x2 j (by omega) hf
      have hle := flt_le hf
      rw [hf] at ef
      have hj : (0 : Int) ≤ (j : Int) := by omega
      exact ⟨[.str "word", .int j, .bl false], by simp [m__law_read, b__law_read, e], by simp [m__law_due, b__law_due, ql, atI0, i1, h', ef, fI, hj], sh_3 (by decide +kernel) (by omega) (by omega)⟩
    | none =>
      obtain ⟨ρ, e⟩ := run_tops (ca := ca) (w := w) (by omega) hf
      obtain ⟨ρ2, e2⟩ := run_lh (ca := ca) 40 41 (w := w) hl (rd_mem _ 0 0 ((flt_rd _).mp hf))
      rw [hf] at ef
      have sh := sh_hts (a := 40) (b := 41) hl
      generalize iz (hts 40 41 none 0 w) = HH at *
      exact ⟨_, by simp [m__law_read, b__law_read, e], by simp [m__law_due, b__law_due, ql, atI0, i1, h', ef, fI, lit_oc, lit_co, i4, e2], sh⟩
theorem duo1 {w : List Nat} (hl : w.length ≤ 1000) : Duo ca 1 w := by
  have ql := qLen_cd w hl
  obtain ⟨x1, x2⟩ := exc_bottoms (ca := ca) hl
  obtain ⟨ρf, ef⟩ := run_lf (ca := ca) hl
  obtain ⟨_, i1, _⟩ := ix3 (.int 240) (.int 240) (.int 120)
  obtain ⟨_, i4⟩ := ix2 (.str (cd [40, 41])) (.str (cd [41, 40]))
  by_cases h : 240 < w.length
  · obtain ⟨ρ, e⟩ := x1 h
    have h' : (240 : Int) < w.length := by omega
    exact ⟨[.str "size", .int w.length, .bl false], by simp [m__law_read, b__law_read, e], by simp [m__law_due, b__law_due, ql, atI1, i1, h'], sh_3 (by decide +kernel) (by omega) (by omega)⟩
  · have h' : ¬ (240 : Int) < w.length := by omega
    cases hf : flt w with
    | some j =>
      obtain ⟨ρ, e⟩ := x2 j (by omega) hf
      have hle := flt_le hf
      rw [hf] at ef
      have hj : (0 : Int) ≤ (j : Int) := by omega
      exact ⟨[.str "word", .int j, .bl false], by simp [m__law_read, b__law_read, e], by simp [m__law_due, b__law_due, ql, atI1, i1, h', ef, fI, hj], sh_3 (by decide +kernel) (by omega) (by omega)⟩
    | none =>
      obtain ⟨ρ, e⟩ := run_bottoms (ca := ca) (w := w) (by omega) hf
      obtain ⟨ρ2, e2⟩ := run_lh (ca := ca) 41 40 (w := w) hl (rd_mem _ 0 0 ((flt_rd _).mp hf))
      rw [hf] at ef
      have sh := sh_hts (a := 41) (b := 40) hl
      generalize iz (hts 41 40 none 0 w) = HH at *
      exact ⟨_, by simp [m__law_read, b__law_read, e], by simp [m__law_due, b__law_due, ql, atI1, i1, h', ef, fI, lit_oc, lit_co, i4, e2], sh⟩
/-- a word that has no fault is the word of a staircase -/
theorem stair_ex {w : List Nat} (h0 : w ≠ []) (hf : flt w = none) : ∃ S m, Stair S m ∧ w = word S ∧ w.length = 2 * (m + (S.length - 1)) ∧ 1 ≤ m := by
  obtain ⟨e, r, m, c, rfl⟩ := dec h0 ((flt_rd _).mp hf)
  have c0 := c.lt
  have c1 := c.le
  dsimp only at c0 c1
  exact ⟨_, m, ⟨e, r, rfl, c⟩, rfl, word_len c, by omega⟩
theorem read_stairs {S : List (Nat × Nat)} {m : Nat} (h : Stair S m) (hl : (word S).length ≤ 120) : ∃ ρ, m__law_read ca [.val (.int 2), .val (.str (cd (word S)))] = .ok (.fr (.lst [.str "stairs", .tup (rz (rowsZ S))])) ρ := by
  obtain ⟨ρ, e⟩ := run_stair_of (ca := ca) h hl
  have ls := look_st (ca := ca) (rowsZ S)
  have ld : laneD ca (rowsZ S) = .ins (ca 5) [("stretches", .tup (rz (rowsZ S))), ("height", .int (rowsZ S).length)] := rfl
  rw [ld] at e
  generalize rz (rowsZ S) = RR at *
  simp [m__law_read, b__law_read, e, FT]
theorem duo2 {w : List Nat} (hl : w.length ≤ 1000) : Duo ca 2 w := by
  have ql := qLen_cd w hl
  obtain ⟨x1, x2⟩ := exc_stair_of (ca := ca) hl
  obtain ⟨ρf, ef⟩ := run_lf (ca := ca) hl
  obtain ⟨_, _, i1⟩ := ix3 (.int 240) (.int 240) (.int 120)
  by_cases h : w.length < 2 ∨ 120 < w.length
  · obtain ⟨ρ, e⟩ := x1 h
    by_cases h1 : 120 < w.length
    · have h' : (120 : Int) < w.length := by omega
      exact ⟨[.str "size", .int w.length, .bl false], by simp [m__law_read, b__law_read, e], by simp [m__law_due, b__law_due, ql, i1, h'], sh_3 (by decide +kernel) (by omega) (by omega)⟩
    · have h' : ¬ (120 : Int) < w.length := by omega
      have h2 : (w.length : Int) < 2 := by omega
      exact ⟨[.str "size", .int w.length, .bl false], by simp [m__law_read, b__law_read, e], by simp [m__law_due, b__law_due, ql, i1, h', h2], sh_3 (by decide +kernel) (by omega) (by omega)⟩
  · have h' : ¬ (120 : Int) < w.length := by omega
    have h2 : ¬ (w.length : Int) < 2 := by omega
    cases hf : flt w with
    | some j =>
      obtain ⟨ρ, e⟩ := x2 j (by omega) (by omega) hf
      have hle := flt_le hf
      rw [hf] at ef
      have hj : (0 : Int) ≤ (j : Int) := by omega
      exact ⟨[.str "word", .int j, .bl false], by simp [m__law_read, b__law_read, e], by simp [m__law_due, b__law_due, ql, i1, h', h2, ef, fI, hj], sh_3 (by decide +kernel) (by omega) (by omega)⟩
    | none =>
      obtain ⟨S, m, hS, rfl, wl, hm⟩ := stair_ex (w := w) (by rintro rfl; simp at h) hf
      obtain ⟨ρ2, e2⟩ := run_lso (ca := ca) hS (by omega) (by omega)
      obtain ⟨ρ3, e3⟩ := read_stairs (ca := ca) hS (by omega)
      rw [hf] at ef
      have sh := sh_stairs hS (by omega) (by omega)
      generalize rz (rowsZ S) = RR at *
      exact ⟨_, ⟨_, e3⟩, by simp [m__law_due, b__law_due, ql, i1, h', h2, ef, fI, e2], sh⟩
end K41
end
section
set_option Elab.async false
set_option linter.all false
set_option maxRecDepth 100000
set_option maxHeartbeats 4000000
namespace K41
open PySem L2 P0
variable {ca : Nat → Addr}
variable {S : List (Nat × Nat)} {m : Nat}
theorem word_lt (h : Stair S m) : ∀ c ∈ word S, c < 1000 := by
  obtain ⟨e, r, rfl, c⟩ := h.ex
  intro x hx
  rcases word_mem c x hx with rfl | rfl <;> decide
theorem wlen (h : Stair S m) : (word S).length = 2 * (m + (S.length - 1)) := by
  obtain ⟨e, r, rfl, c⟩ := h.ex
  exact word_len c
theorem sh_told1 {a : List Nat} (ha : ∀ c ∈ a, c < 1000) (la : a.length ≤ 1000) : Sh [.str "told", .str (cd a)] := by
  have s0 : PyData.strOk "told" = true ∧ ("told" : Str).cps.size ≤ 10 := by decide +kernel
  have s1 := strOk_cd ha
  refine ⟨?_, ?_, ?_, ?_⟩
  · simp [isDts, isDt, s0.1, s1]
  · simp [dpDs, dpD]
  · simp [toPys, toPy, PyData.showableAll, PyData.showable]
  · have := s0.2
    have e1 : (cd a).cps.size = a.length := by simp
    simp only [toPys, toPy, PyData.bulkAll, PyData.bulk, e1]
    omega
theorem told_word (h : Stair S m) (hl : S.length ≤ 60) (hm : m ≤ 60) : ∃ ρ, m__law_lane_word ca [.val (laneD ca (rowsZ S))] = .ok (.fr (.lst [.str "told", .str (cd (word S))])) ρ := by
  obtain ⟨ρ, e⟩ := run_stair_word (ca := ca) h hl hm
  simp [m__law_lane_word, b__law_lane_word, e]
theorem told_lane {L : List (Int × Int)} {k : Nat} (h1 : 1 ≤ L.length) (h2 : L.length ≤ 60) (h : fnl leanOk 1 L = some k) : ∃ ρ, m__law_lane_word ca [.val (laneD ca L)] = .ok (.fr (.lst [.str "lane", .int k, .bl false])) ρ := by
  obtain ⟨ρ, e⟩ := exc_check_staircase (ca := ca) h1 h2 h
  have e2 : ∃ ρ, m_stair_word ca [.val (laneD ca L)] = .exc ⟨"LaneError", some [("at", .int k)]⟩ ρ := by
    simp [m_stair_word, b_stair_word, e]
  obtain ⟨ρ2, e2⟩ := e2
  simp [m__law_lane_word, b__law_lane_word, e2]
/-! ### _law_lane -/
theorem ll_comp {v : Int} {s0 s2 s3 s5 s6 : Sl} (L : List (Int × Int)) (hl : L.length ≤ 1000) :
    compL [7] (setS 7) (pure true) (E1__law_lane ca) (rz L) [] [s0, .val (.lst (rz L)), s2, s3, .val (.int v), s5, s6, .no] = .ok (rz (shZ v L)) [s0, .val (.lst (rz L)), s2, s3, .val (.int v), s5, s6, .no] := by
  have c := compL_all (vs := [7]) (mg := setS 7) (me := E1__law_lane ca) (ρ0 := [s0, .val (.lst (rz L)), s2, s3, .val (.int v), s5, s6, .no]) (fun p : Int × Int => Dv.tup [.int p.1, .int p.2]) (fun p => .tup [.int (p.1 + v), .int p.2])
    (fun p => [s0, .val (.lst (rz L)), s2, s3, .val (.int v), s5, s6, .val (.tup [.int p.1, .int p.2])]) L [] [s0, .val (.lst (rz L)), s2, s3, .val (.int v), s5, s6, .no] rfl rfl
    (fun p hp => ⟨by simp, by simp [E1__law_lane, atI0, atI1], rfl, rfl⟩) (by rw [List.length_nil, Nat.zero_add]; exact szlt (by omega))
  refine Eq.trans c ?_
  rw [List.nil_append]
  congr 1
  unfold rz shZ
  rw [List.map_map]; rfl
theorem run_law_lane {p : List Int} (hp : p ≠ []) (h : Stair S m) (hl : S.length ≤ 60) (hm : m ≤ 60) :
    ∃ (p' : List Int) (ρ : VE), p' ≠ [] ∧ m__law_lane ca [.mu true (.lst (iz p)), .val (.lst (rz (rowsZ S)))] = .ok (.d (.bl true)) (.mu true (.lst (iz p')) :: ρ) := by
  obtain ⟨v1, p1, s, v10, v11, n1, e1⟩ := run_draw (ca := ca) (m := 7001) hp (Mod.of (by decide) (by decide))
  obtain ⟨v2, p2, s', v20, v21, n2, e2⟩ := run_draw (ca := ca) (m := 4) n1 (Mod.of (by decide) (by decide))
  obtain ⟨T, f, hS, hf⟩ := rowsZ_last h
  obtain ⟨v, hv, e3⟩ := moves_at v20 v21 0 (-4000) (4000 - f) (v1 - 3500)
  have hb := le_last h hS
  have fits := h.fitsSh hl hm (v := v) (fun q hq => by
    have := hb q hq
    rcases hv with rfl | rfl | rfl | rfl <;> omega)
  obtain ⟨ρ1, d1⟩ := run_lwo (ca := ca) h hl hm
  have la : atI (rz (rowsZ S)) (-1) = some (.tup [.int (f : Int), .int ((m : Int) - f)]) := by
    rw [hS, rowsZ, List.map_append]
    exact at_rows _ _
  have l0 : (rowsZ S).length = S.length := by simp [rowsZ]
  have wl := wlen h
  have c := ll_comp (ca := ca) (v := v) (s0 := .mu true (.lst (iz p2))) (s2 := .val (.str (cd (word S)))) (s3 := .mu false (.lst [.int 0, .int (-4000), .int (4000 - f), .int (v1 - 3500)])) (s5 := .no) (s6 := .no) (rowsZ S) (by omega)
  obtain ⟨ρ2, d2⟩ := run_Lane_init (ca := ca) (Sq.lst (shZ v (rowsZ S))) fits
  rw [norm_shZ, h.norm] at d2
  obtain ⟨ρ3, d3⟩ := told_word (ca := ca) h hl hm
  have s1 := Sh.same (ca := ca) (sh_told1 (word_lt h) (by omega))
  have ql := qLen_cd (word S) (by omega)
  have tail : ∀ (s3 : Sl), ∃ ρ, R5__law_lane ca [.mu true (.lst (iz p2)), .val (.lst (rz (rowsZ S))), .val (.str (cd (word S))), s3, .val (.int v), .val (laneD ca (rowsZ S)), .no, .no] = .ok (.rt (.d (.bl true))) (.mu true (.lst (iz p2)) :: ρ) := by
    intro s3
    by_cases h120 : (word S).length ≤ 120
    · obtain ⟨ρ4, d4⟩ := read_stairs (ca := ca) h h120
      have s2 := Sh.same (ca := ca) (sh_stairs h hl hm)
      have g : ¬ (120 : Int) < (word S).length := by omega
      generalize rz (rowsZ S) = RR at *
      generalize word S = WW at *
      generalize laneD ca (rowsZ S) = LL at *
      simp [R5__law_lane, R6__law_lane, R7__law_lane, R8__law_lane, ql, g, d3, d4, s1, s2]
    · obtain ⟨x1, _⟩ := exc_stair_of (ca := ca) (w := word S) (by omega)
      obtain ⟨ρ4, d4⟩ := x1 (by omega)
      have d4' : ∃ ρ, m__law_read ca [.val (.int 2), .val (.str (cd (word S)))] = .ok (.fr (.lst [.str "size", .int (word S).length, .bl false])) ρ := by simp [m__law_read, b__law_read, d4]
      obtain ⟨ρ5, d5⟩ := d4'
      have s2 := Sh.same (ca := ca) (sh_3 (s := "size") (z := (word S).length) (by decide +kernel) (by omega) (by omega))
      have g : (120 : Int) < (word S).length := by omega
      generalize rz (rowsZ S) = RR at *
      generalize word S = WW at *
      generalize laneD ca (rowsZ S) = LL at *
      simp [R5__law_lane, R6__law_lane, R7__law_lane, R8__law_lane, ql, g, d3, d5, s1, s2]
  obtain ⟨ρ, t⟩ := tail (.mu false (.lst [.int 0, .int (-4000), .int (4000 - f), .int (v1 - 3500)]))
  obtain ⟨x, r, hx⟩ := rz_ne (L := shZ v (rowsZ S)) (fun z => by have := congrArg List.length z; simp [shZ] at this; rw [this] at l0; have := h.pos; simp at l0; omega)
  rw [hx] at c d2
  have hr : r.length ≤ 100 := by have := congrArg List.length hx; simp [shZ] at this; omega
  have z1 : r.length + 1 < sizeLine := szlt (by omega)
  simp only [rz_cons] at c d2
  have ld : laneD ca (rowsZ S) = .ins (ca 5) [("stretches", .tup (rz (rowsZ S))), ("height", .int (rowsZ S).length)] := rfl
  rw [ld] at d2 d3 t
  generalize rz (rowsZ S) = RR at *
  generalize cd (word S) = WW at *
  have key : ∃ ρ, m__law_lane ca [.mu true (.lst (iz p)), .val (.lst RR)] = .ok (.d (.bl true)) (.mu true (.lst (iz p2)) :: ρ) := by

    simp [m__law_lane, b__law_lane, R1__law_lane, R2__law_lane, R3__law_lane, R4__law_lane, atI0, atI1, walk?, items?, d1, la, e1, e2, e3, c, d2, d3, s1, z1, t]
  obtain ⟨ρ, key⟩ := key
  exact ⟨p2, ρ, n2, key⟩
end K41
end
section
set_option Elab.async false
set_option linter.all false
set_option maxRecDepth 100000
set_option maxHeartbeats 4000000
namespace K41
open PySem L2 P0
variable {ca : Nat → Addr}
section
variable {S V : List (Nat × Nat)} {m n f g : Nat} {T U : List (Nat × Nat)} {w : Int × Int}
theorem long1 (h : Stair S m) (hm : m ≤ 60) (hl : S.length ≤ 10) (e : S = T ++ [(f, m)]) (W : Wr S m f w) : Fits (rowsZ S ++ [w]) ∧ norm (rowsZ S ++ [w]) = rowsZ S ++ [w] ∧ fnl leanOk 1 (rowsZ S ++ [w]) = some S.length := by
  have hf := h.fits (by omega) hm
  have l0 : (rowsZ S).length = S.length := by simp [rowsZ]
  have lT : S.length = T.length + 1 := by rw [e]; simp
  have eR : rowsZ S ++ [w] = rowsZ T ++ ((f : Int), (m : Int) - f) :: [w] := by rw [e, rowsZ_cat]; simp
  have eS : rowsZ S = rowsZ T ++ [((f : Int), (m : Int) - f)] := by rw [e, rowsZ_cat]
  refine ⟨⟨by simp, by simp; omega, fun p hp => ?_, ?_⟩, ?_, ?_⟩
  · rcases List.mem_append.mp hp with hp | hp
    · exact hf.far p hp
    · rw [List.mem_singleton.mp hp]
      have := W.w1
      have := W.w2
      have := W.b1
      have := W.b2
      omega
  · have r := hf.row
    rw [eS] at r
    rw [eR, fnl_app _ _ _ _ _ _ r, if_pos W.r]; rfl
  · obtain ⟨l, r, hr⟩ := head_rows h
    rw [hr]
    exact norm_zero l _
  · have r := h.lean 1
    rw [eS] at r
    rw [eR, fnl_app _ _ _ _ _ _ r, if_neg (by rw [W.l]; exact Bool.false_ne_true)]
    simp [rowsZ, lT]
    omega
theorem long2 (h : Stair S m) (hm : m ≤ 60) (hl : S.length ≤ 10) (e : S = T ++ [(f, m)]) (W : Wr S m f w) (h' : Stair V n) (hn : n ≤ 50) (hl' : V.length ≤ 10) (e' : V = U ++ [(g, n)]) {L : List (Int × Int)}
    (eL : L = rowsZ S ++ w :: (shZ w.1 (rowsZ V) ++ [((g : Int) + w.1 - 1, (n : Int) - g + 1)])) : Fits L ∧ norm L = L ∧ fnl leanOk 1 L = some S.length := by
  have hf := h.fits (by omega) hm
  have hf' := h'.fits (by omega) (by omega)
  have l0 : (rowsZ S).length = S.length := by simp [rowsZ]
  have l1 : (rowsZ V).length = V.length := by simp [rowsZ]
  have lT : S.length = T.length + 1 := by rw [e]; simp
  have eS : rowsZ S = rowsZ T ++ [((f : Int), (m : Int) - f)] := by rw [e, rowsZ_cat]
  have hg := h'.all (g, n) (by rw [e']; simp)
  dsimp only at hg
  obtain ⟨l, r, hr⟩ := head_rows h'
  have hlr : 1 ≤ l := by
    have := (h'.rows (0, l) (by rw [hr]; simp)).2.2
    exact this
  have w1 := W.w1
  have w2 := W.w2
  have b1 := W.b1
  have b2 := W.b2
  -- the part above
  have up : ∀ k, fnl rowOk k (w :: (shZ w.1 (rowsZ V) ++ [((g : Int) + w.1 - 1, (n : Int) - g + 1)])) = none := fun k => by
    have eV : shZ w.1 (rowsZ V) ++ [((g : Int) + w.1 - 1, (n : Int) - g + 1)] = shZ w.1 (rowsZ U) ++ ((g : Int) + w.1, (n : Int) - g) :: [((g : Int) + w.1 - 1, (n : Int) - g + 1)] := by
      rw [e', rowsZ_cat]
      simp [shZ]
    have rV : fnl rowOk (k + 1) (shZ w.1 (rowsZ U) ++ [((g : Int) + w.1, (n : Int) - g)]) = none := by
      have := fnl_shZ rowOk_sh w.1 (rowsZ V) (k + 1)
      rw [fnl_any _ _ _ _ hf'.row] at this
      rw [e', rowsZ_cat] at this
      simpa [shZ] using this
    have rV2 : fnl rowOk (k + 1) (shZ w.1 (rowsZ V) ++ [((g : Int) + w.1 - 1, (n : Int) - g + 1)]) = none := by
      rw [eV, fnl_app _ _ _ _ _ _ rV, if_pos]
      · rfl
      · unfold rowOk
        simp only [Bool.and_eq_true, decide_eq_true_eq]
        omega
    rw [hr] at rV2 ⊢
    show (if rowOk w (0 + w.1, l) = true then fnl rowOk (k + 1) (shZ w.1 ((0, l) :: r) ++ [((g : Int) + w.1 - 1, (n : Int) - g + 1)]) else some k) = none
    rw [if_pos, rV2]
    unfold rowOk
    simp only [Bool.and_eq_true, decide_eq_true_eq]
    omega
  have eR : L = rowsZ T ++ ((f : Int), (m : Int) - f) :: w :: (shZ w.1 (rowsZ V) ++ [((g : Int) + w.1 - 1, (n : Int) - g + 1)]) := by rw [eL, eS]; simp
  refine ⟨⟨by rw [eL]; simp; omega, by rw [eL]; simp [shZ]; omega, fun p hp => ?_, ?_⟩, ?_, ?_⟩
  · rw [eL] at hp
    rcases List.mem_append.mp hp with hp | hp
    · exact hf.far p hp
    · rcases List.mem_cons.mp hp with hp | hp
      · rw [hp]; omega
      · rcases List.mem_append.mp hp with hp | hp
        · obtain ⟨q, hq, rfl⟩ := List.mem_map.mp hp
          have k1 := hf'.far q hq
          have k2 := h'.rows q hq
          dsimp only
          omega
        · rw [List.mem_singleton.mp hp]
          dsimp only
          omega
  · have r := hf.row
    rw [eS] at r
    rw [eR, fnl_app _ _ _ _ _ _ r, if_pos W.r]
    exact up _
  · obtain ⟨l, r, hr⟩ := head_rows h
    rw [eL, hr]
    exact norm_zero l _
  · have r := h.lean 1
    rw [eS] at r
    rw [eR, fnl_app _ _ _ _ _ _ r, if_neg (by rw [W.l]; exact Bool.false_ne_true)]
    simp [rowsZ, lT]
    omega
theorem nl_comp {v : Int} {s0 s2 s3 s4 s6 s8 s9 : Sl} {l : Int} (L : List (Int × Int)) (hl : L.length ≤ 1000) :
    compL [10] (setS 10) (pure true) (E1__law_not_let ca) (rz L) [] [s0, .val (.lst (rz L)), s2, s3, s4, .val (.tup [.int v, .int l]), s6, .no, s8, s9, .no] = .ok (rz (shZ v L)) [s0, .val (.lst (rz L)), s2, s3, s4, .val (.tup [.int v, .int l]), s6, .no, s8, s9, .no] := by
  have c := compL_all (vs := [10]) (mg := setS 10) (me := E1__law_not_let ca) (ρ0 := [s0, .val (.lst (rz L)), s2, s3, s4, .val (.tup [.int v, .int l]), s6, .no, s8, s9, .no]) (fun p : Int × Int => Dv.tup [.int p.1, .int p.2]) (fun p => .tup [.int (p.1 + v), .int p.2])
    (fun p => [s0, .val (.lst (rz L)), s2, s3, s4, .val (.tup [.int v, .int l]), s6, .no, s8, s9, .val (.tup [.int p.1, .int p.2])]) L [] [s0, .val (.lst (rz L)), s2, s3, s4, .val (.tup [.int v, .int l]), s6, .no, s8, s9, .no] rfl rfl
    (fun p hp => ⟨by simp, by simp [E1__law_not_let, atI0, atI1], rfl, rfl⟩) (by rw [List.length_nil, Nat.zero_add]; exact szlt (by omega))
  refine Eq.trans c ?_
  rw [List.nil_append]
  congr 1
  unfold rz shZ
  rw [List.map_map]; rfl
theorem nl_tail {p : List Int} {s2 s3 s4 s6 : Sl} (h : Stair S m) (hm : m ≤ 50) (hl : S.length ≤ 10) (e : S = T ++ [(f, m)]) (W : Wr S m f w) :
    ∃ ρ, R5__law_not_let ca [.mu true (.lst (iz p)), .val (.lst (rz (rowsZ S))), s2, s3, s4, .val (.tup [.int w.1, .int w.2]), s6, .no, .no, .no, .no] = .ok (.rt (.d (.bl true))) (.mu true (.lst (iz p)) :: ρ) := by
  have l0 : (rowsZ S).length = S.length := by simp [rowsZ]
  have c := nl_comp (ca := ca) (v := w.1) (l := w.2) (s0 := .mu true (.lst (iz p))) (s2 := s2) (s3 := s3) (s4 := s4) (s6 := s6) (s8 := .no) (s9 := .no) (rowsZ S) (by omega)
  obtain ⟨A1, A2, A3⟩ := long1 h (by omega) hl e W
  obtain ⟨B1, B2, B3⟩ := long2 h (by omega) hl e W h hm hl e rfl
  obtain ⟨ρ1, d1⟩ := run_Lane_init (ca := ca) (Sq.lst (rowsZ S ++ [w])) A1
  obtain ⟨ρ2, d2⟩ := run_Lane_init (ca := ca) (Sq.lst _) B1
  rw [A2] at d1
  rw [B2] at d2
  obtain ⟨ρ3, d3⟩ := told_lane (ca := ca) (L := rowsZ S ++ [w]) A1.l1 A1.l2 A3
  obtain ⟨ρ4, d4⟩ := told_lane (ca := ca) B1.l1 B1.l2 B3
  have s1 := Sh.same (ca := ca) (sh_3 (s := "lane") (z := (S.length : Nat)) (by decide +kernel) (by omega) (by omega))
  have la : atI (rz (shZ w.1 (rowsZ S))) (-1) = some (.tup [.int ((f : Int) + w.1), .int ((m : Int) - f)]) := by
    rw [e, rowsZ_cat]
    unfold shZ
    rw [List.map_append]
    exact at_rows _ _
  rw [← rz_append, rz_cons, show rz [] = [] from rfl] at d1
  rw [← rz_append, rz_cons, ← rz_append, rz_cons, show rz [] = [] from rfl] at d2
  have z1 : S.length + 1 ≤ sizeLine := szle (by omega)
  have z2 : S.length + 1 + S.length ≤ sizeLine := szle (by omega)
  have z3 : S.length + 1 + S.length + 1 ≤ sizeLine := szle (by omega)
  have z4 : S.length + (S.length + 1) ≤ sizeLine := szle (by omega)
  have z5 : S.length + (S.length + 1) + 1 ≤ sizeLine := szle (by omega)
  have z6 : S.length + (S.length + 1 + 1) ≤ sizeLine := szle (by omega)
  dsimp only at d2
  have ls : (rz (shZ w.1 (rowsZ S))).length = S.length := by simp [shZ, l0]
  have lR : (rz (rowsZ S)).length = S.length := by simp [l0]
  generalize laneD ca (rowsZ S ++ [w]) = D1 at *
  generalize laneD ca (rowsZ S ++ w :: (shZ w.1 (rowsZ S) ++ [((f : Int) + w.1 - 1, (m : Int) - f + 1)])) = D2 at *
  generalize rz (shZ w.1 (rowsZ S)) = RW at *
  generalize rz (rowsZ S) = RR at *
  simp [R5__law_not_let, R6__law_not_let, R7__law_not_let, R8__law_not_let, R9__law_not_let, walk?, items?, c, la, atI0, atI1, ls, lR, d1, d2, d3, d4, s1, z1, z2, z3, z4, z5, z6]
theorem run_not_let {p : List Int} (hp : p ≠ []) (h : Stair S m) (hm : m ≤ 50) (hl : S.length ≤ 10) :
    ∃ (p' : List Int) (ρ : VE), p' ≠ [] ∧ m__law_not_let ca [.mu true (.lst (iz p)), .val (.lst (rz (rowsZ S)))] = .ok (.d (.bl true)) (.mu true (.lst (iz p')) :: ρ) := by
  obtain ⟨T, f, e, hf⟩ := rowsZ_last h
  have la : atI (rz (rowsZ S)) (-1) = some (.tup [.int (f : Int), .int ((m : Int) - f)]) := by
    rw [e, rowsZ_cat]
    exact at_rows _ _
  obtain ⟨v1, p1, s1, v10, v11, n1, e1⟩ := run_draw (ca := ca) (m := 3) hp (Mod.of (by decide) (by decide))
  obtain ⟨v2, p2, s2, v20, v21, n2, e2⟩ := run_draw (ca := ca) (m := 20) n1 (Mod.of (by decide) (by decide))
  have W1 : Wr S m f ((f : Int) - (1 + v1), 1 + v1 + 1 + v2) := by
    refine ⟨?_, ?_, by dsimp only; omega, by dsimp only; omega, by dsimp only; omega, by dsimp only; omega⟩
    · unfold rowOk
      simp only [Bool.and_eq_true, decide_eq_true_eq]
      omega
    · unfold leanOk
      rw [Bool.and_eq_false_iff]
      left
      rw [decide_eq_false_iff_not]
      dsimp only
      split <;> omega
  by_cases hc : 1 < (m : Int) - f
  · obtain ⟨v3, p3, s3, v30, v31, n3, e3⟩ := run_draw (ca := ca) (m := 2) n2 (Mod.of (by decide) (by decide))
    by_cases hz : v3 = 0
    · obtain ⟨v4, p4, s4, v40, v41, n4, e4⟩ := run_draw (ca := ca) (m := (m : Int) - f - 1) n3 (Mod.of (by omega) (by omega))
      obtain ⟨v5, p5, s5, v50, v51, n5, e5⟩ := run_draw (ca := ca) (m := (m : Int) - f - 1 - v4) n4 (Mod.of (by omega) (by omega))
      have W2 : Wr S m f ((f : Int) + v4, 1 + v5) := by
        refine ⟨?_, ?_, by dsimp only; omega, by dsimp only; omega, by dsimp only; omega, by dsimp only; omega⟩
        · unfold rowOk
          simp only [Bool.and_eq_true, decide_eq_true_eq]
          omega
        · unfold leanOk
          rw [Bool.and_eq_false_iff]
          left
          rw [decide_eq_false_iff_not]
          dsimp only
          split <;> omega
      obtain ⟨ρ, t⟩ := nl_tail (ca := ca) (p := p5) (s2 := .val (.int f)) (s3 := .val (.int ((m : Int) - f))) (s4 := .val (.int (1 + v1))) (s6 := .val (.int v4)) h hm hl e W2
      have key : ∃ ρ, m__law_not_let ca [.mu true (.lst (iz p)), .val (.lst (rz (rowsZ S)))] = .ok (.d (.bl true)) (.mu true (.lst (iz p5)) :: ρ) := by
        simp [m__law_not_let, b__law_not_let, R1__law_not_let, R2__law_not_let, R3__law_not_let, R4__law_not_let, la, atI0, atI1, e1, e2, e3, hc, hz, e4, e5]
        try simp at t
        simp [t]
      obtain ⟨ρ, key⟩ := key
      exact ⟨p5, ρ, n5, key⟩
    · obtain ⟨ρ, t⟩ := nl_tail (ca := ca) (p := p3) (s2 := .val (.int f)) (s3 := .val (.int ((m : Int) - f))) (s4 := .val (.int (1 + v1))) (s6 := .no) h hm hl e W1
      have key : ∃ ρ, m__law_not_let ca [.mu true (.lst (iz p)), .val (.lst (rz (rowsZ S)))] = .ok (.d (.bl true)) (.mu true (.lst (iz p3)) :: ρ) := by
        simp [m__law_not_let, b__law_not_let, R1__law_not_let, R2__law_not_let, R3__law_not_let, R4__law_not_let, la, atI0, atI1, e1, e2, e3, hc, hz]
        try simp at t
        simp [t]
      obtain ⟨ρ, key⟩ := key
      exact ⟨p3, ρ, n3, key⟩
  · obtain ⟨ρ, t⟩ := nl_tail (ca := ca) (p := p2) (s2 := .val (.int f)) (s3 := .val (.int ((m : Int) - f))) (s4 := .val (.int (1 + v1))) (s6 := .no) h hm hl e W1
    have key : ∃ ρ, m__law_not_let ca [.mu true (.lst (iz p)), .val (.lst (rz (rowsZ S)))] = .ok (.d (.bl true)) (.mu true (.lst (iz p2)) :: ρ) := by
      simp [m__law_not_let, b__law_not_let, R1__law_not_let, R2__law_not_let, R3__law_not_let, R4__law_not_let, la, atI0, atI1, e1, e2, hc]
      try simp at t
      simp [t]
    obtain ⟨ρ, key⟩ := key
    exact ⟨p2, ρ, n2, key⟩

end
/-! ### _law_good -/
theorem Duo.same {z : Int} {w : List Nat} (h : Duo ca z w) : ∃ D ρ ρ', m__law_read ca [.val (.int z), .val (.str (cd w))] = .ok (.fr (.lst D)) ρ ∧ m__law_due ca [.val (.int z), .val (.str (cd w))] = .ok (.fr (.lst D)) ρ' ∧ m__law_same ca [.val (.lst D), .val (.lst D)] = .ok (.d (.bl true)) [.val (.lst D), .val (.lst D)] := by
  obtain ⟨D, ⟨ρ, h1⟩, ⟨ρ', h2⟩, h3⟩ := h.ex
  exact ⟨D, ρ, ρ', h1, h2, Sh.same (ca := ca) h3⟩
theorem rng3 : rng 0 3 = [.int 0, .int 1, .int 2] := rfl
theorem duo_all {w : List Nat} (hl : w.length ≤ 1000) : ∀ z : Int, z = 0 ∨ z = 1 ∨ z = 2 → Duo ca z w := by
  rintro z (rfl | rfl | rfl)
  · exact duo0 hl
  · exact duo1 hl
  · exact duo2 hl
theorem lg_for {w : List Nat} (hl : w.length ≤ 1000) : ∃ s, forL (setS 1) (L1__law_good ca) (rng 0 3) [.val (.str (cd w)), .no, .no] = .ok .nx [.val (.str (cd w)), s, .no] := by
  have turn : ∀ z : Int, z = 0 ∨ z = 1 ∨ z = 2 → L1__law_good ca [.val (.str (cd w)), .val (.int z), .no] = .ok .nx [.val (.str (cd w)), .val (.int z), .no] := by
    intro z hz
    obtain ⟨D, ρ, ρ', h1, h2, h3⟩ := (duo_all (ca := ca) hl z hz).same
    simp [L1__law_good, h1, h2, h3]
  rw [rng3, forL_nx (run_setS (by simp) (by simp)) (turn 0 (by simp)), forL_nx (run_setS (by simp) (by simp)) (turn 1 (by simp)), forL_nx (run_setS (by simp) (by simp)) (turn 2 (by simp))]
  exact ⟨_, rfl⟩
theorem run_good {w : List Nat} (hl : w.length ≤ 1000) (hf : flt w = none) : ∃ ρ, m__law_good ca [.val (.str (cd w))] = .ok (.d (.bl true)) ρ := by
  obtain ⟨s, e⟩ := lg_for (ca := ca) hl
  have ql := qLen_cd w hl
  have r3 : R62 3 := by decide
  by_cases h : w.length < 2
  · have h' : (w.length : Int) < 2 := by omega
    simp [m__law_good, b__law_good, R1__law_good, e, ql, h']
  · have h' : ¬ (w.length : Int) < 2 := by omega
    by_cases h2 : 120 < w.length
    · have h2' : (120 : Int) < w.length := by omega
      simp [m__law_good, b__law_good, R1__law_good, e, ql, h', h2']
    · have h2' : ¬ (120 : Int) < w.length := by omega
      obtain ⟨S, m, hS, rfl, wl, hm⟩ := stair_ex (w := w) (by rintro rfl; simp at h) hf
      obtain ⟨ρ3, d3⟩ := run_stair_of (ca := ca) hS (by omega)
      obtain ⟨ρ4, d4⟩ := told_word (ca := ca) hS (by omega) (by omega)
      have s1 := Sh.same (ca := ca) (sh_told1 (word_lt hS) hl)
      generalize cd (word S) = WW at *
      simp [m__law_good, b__law_good, R1__law_good, R2__law_good, R3__law_good, e, ql, h', h2', d3, d4, s1]
end K41
end
section
set_option Elab.async false
set_option linter.all false
set_option maxRecDepth 100000
set_option maxHeartbeats 4000000
namespace K41
open PySem L2 P0
variable {ca : Nat → Addr}
/-! ### _law_word -/
theorem lw_turn {p : List Int} {w : List Nat} {g o half k : Nat} {s5 s6 : Sl} (hp : p ≠ []) (hr : rd 0 w = some g) (hk : g + k = 2 * o) (ho : o ≤ half) (hkh : k < 2 * half) (hw : w.length = k) (hh : half ≤ 200) (h6 : isIo (some s6) = false) :
    ∃ (p' : List Int) (w' : List Nat) (g' o' : Nat) (s6' : Sl), p' ≠ [] ∧ rd 0 w' = some g' ∧ g' + (k + 1) = 2 * o' ∧ o' ≤ half ∧ w'.length = k + 1 ∧ isIo (some s6') = false ∧
      L1__law_word ca [.mu true (.lst (iz p)), .val (.int half), .val (.str (cd w)), .val (.int g), .val (.int o), s5, s6] = .ok .nx [.mu true (.lst (iz p')), .val (.int half), .val (.str (cd w')), .val (.int g'), .val (.int o'), s5, s6'] := by
  obtain ⟨v, p1, s, v0, v1, n1, e1⟩ := run_draw (ca := ca) (m := 2) hp (Mod.of (by decide) (by decide))
  have z : w.length + 1 ≤ sizeLine := szle (by omega)
  have up : ∀ c : Bool, (g = 0 ∨ (c = true ∧ o < half)) → v = (if c = true then 0 else 1) → ∃ (p' : List Int) (w' : List Nat) (g' o' : Nat) (s6' : Sl), p' ≠ [] ∧ rd 0 w' = some g' ∧ g' + (k + 1) = 2 * o' ∧ o' ≤ half ∧ w'.length = k + 1 ∧ isIo (some s6') = false ∧
      L1__law_word ca [.mu true (.lst (iz p)), .val (.int half), .val (.str (cd w)), .val (.int g), .val (.int o), s5, s6] = .ok .nx [.mu true (.lst (iz p')), .val (.int half), .val (.str (cd w')), .val (.int g'), .val (.int o'), s5, s6'] := by
    intro c hc hv
    refine ⟨p1, w ++ [40], g + 1, o + 1, .val (.bl c), n1, ?_, by omega, by rcases hc with h | h <;> omega, by simp; omega, rfl, ?_⟩
    · rw [rd_app, hr]; rfl
    · have q1 : ((g + 1 : Nat) : Int) = (g : Int) + 1 := by omega
      have q2 : ((o + 1 : Nat) : Int) = (o : Int) + 1 := by omega
      rw [q1, q2]
      rcases hc with h | ⟨h, h'⟩
      · subst h
        cases c <;> simp at hv <;> subst hv <;> simp [L1__law_word, e1, lit_o, lit_c, z, h6]
      · subst h
        simp at hv
        subst hv
        by_cases hg : g = 0
        · subst hg
          simp [L1__law_word, e1, lit_o, lit_c, z, h6, h']
        · simp [L1__law_word, e1, lit_o, lit_c, z, h6, h', hg]
  by_cases hg : g = 0
  · have : v = 0 ∨ v = 1 := by omega
    rcases this with h | h
    · exact up true (.inl hg) h
    · exact up false (.inl hg) h
  · by_cases hv : v = 0
    · by_cases hoh : o < half
      · exact up true (.inr ⟨rfl, hoh⟩) hv
      · refine ⟨p1, w ++ [41], g - 1, o, .val (.bl true), n1, ?_, by omega, ho, by simp; omega, rfl, ?_⟩
        · rw [rd_app, hr]
          simp [rd, hg]
        · have q1 : ((g - 1 : Nat) : Int) = (g : Int) - 1 := by omega
          rw [q1]
          subst hv
          simp [L1__law_word, e1, lit_o, lit_c, z, h6, hoh, hg]
    · refine ⟨p1, w ++ [41], g - 1, o, .val (.bl false), n1, ?_, by omega, ho, by simp; omega, rfl, ?_⟩
      · rw [rd_app, hr]
        simp [rd, hg]
      · have q1 : ((g - 1 : Nat) : Int) = (g : Int) - 1 := by omega
        have hv1 : v = 1 := by omega
        rw [q1]
        subst hv1
        simp [L1__law_word, e1, lit_o, lit_c, z, h6, hg]
theorem lw_loop {half : Nat} (hh : half ≤ 200) : ∀ (n : Nat) (p : List Int) (w : List Nat) (g o k : Nat) (s5 s6 : Sl), p ≠ [] → rd 0 w = some g → g + k = 2 * o → o ≤ half → k + n = 2 * half → w.length = k → isIo (some s5) = false → isIo (some s6) = false →
    ∃ (p' : List Int) (w' : List Nat) (ρ : VE), p' ≠ [] ∧ rd 0 w' = some 0 ∧ w'.length = 2 * half ∧ forL (setS 5) (L1__law_word ca) (rng k n) [.mu true (.lst (iz p)), .val (.int half), .val (.str (cd w)), .val (.int g), .val (.int o), s5, s6] =
      .ok .nx (.mu true (.lst (iz p')) :: .val (.int half) :: .val (.str (cd w')) :: ρ)
  | 0, p, w, g, o, k, s5, s6, hp, hr, hk, ho, hn, hw, _, _ => ⟨p, w, [.val (.int g), .val (.int o), s5, s6], hp, by rw [hr]; congr 1; omega, by omega, rfl⟩
  | n + 1, p, w, g, o, k, s5, s6, hp, hr, hk, ho, hn, hw, h5, h6 => by
    obtain ⟨p1, w1, g1, o1, s6', n1, r1, k1, o1', l1, h6', t⟩ := lw_turn (ca := ca) (s5 := .val (.int k)) hp hr hk ho (by omega) hw hh h6
    obtain ⟨p2, w2, ρ, n2, r2, l2, ih⟩ := lw_loop hh n p1 w1 g1 o1 (k + 1) (.val (.int k)) s6' n1 r1 k1 o1' (by omega) l1 rfl h6'
    refine ⟨p2, w2, ρ, n2, r2, l2, ?_⟩
    rw [rng_succ, forL_nx (run_setS (by simp) (by simp [h5])) t]
    exact ih
theorem run_word {p : List Int} {half : Nat} (hp : p ≠ []) (hh : half ≤ 200) : ∃ (p' : List Int) (w : List Nat) (ρ : VE), p' ≠ [] ∧ flt w = none ∧ w.length = 2 * half ∧ m__law_word ca [.mu true (.lst (iz p)), .val (.int half)] = .ok (.d (.str (cd w))) (.mu true (.lst (iz p')) :: ρ) := by
  obtain ⟨p', w, ρ, n, r, l, e⟩ := lw_loop (ca := ca) hh (2 * half) p [] 0 0 0 .no .no hp rfl rfl (by omega) (by omega) rfl rfl rfl
  have cm : CMulW 2 (half : Int) := cmul (by omega) (by omega) (by omega) (by omega)
  have q : (2 * (half : Int)).toNat = 2 * half := by omega
  have r1 : R62 (2 * (half : Int)) := r62 (by omega) (by omega)
  have e' : forL (setS 5) (L1__law_word ca) (rng 0 (2 * half)) [.mu true (.lst (iz p)), .val (.int half), .val (.str (cd [])), .val (.int 0), .val (.int 0), .no, .no] = _ := e
  have key : ∃ ρ, m__law_word ca [.mu true (.lst (iz p)), .val (.int half)] = .ok (.d (.str (cd w))) (.mu true (.lst (iz p')) :: ρ) := by
    simp [m__law_word, b__law_word, lit_E, cm, q, r1, e']
  obtain ⟨ρ, key⟩ := key
  exact ⟨p', w, ρ, n, (flt_rd w).mpr r, l, key⟩
end K41
end
section
set_option Elab.async false
set_option linter.all false
set_option maxRecDepth 100000
set_option maxHeartbeats 4000000
namespace K41
open PySem L2 P0
variable {ca : Nat → Addr}
/-! ### _law_bad -/
theorem cut_le {α : Type} (l : List α) (lo hi : Option Int) : (cut l lo hi).length ≤ l.length := by
  unfold cut
  rw [List.length_take, List.length_drop]
  omega
theorem lb_turn {X : List Nat} {s0 s1 s2 s3 s4 s5 s6 s7 s8 s9 s10 s12 s13 : Sl} (hl : X.length ≤ 1000) (h12 : isIo (some s12) = false) :
    ∃ s, isIo (some s) = false ∧ L2__law_bad ca [s0, s1, s2, s3, s4, s5, s6, s7, s8, s9, s10, .val (.str (cd X)), s12, s13] = .ok .nx [s0, s1, s2, s3, s4, s5, s6, s7, s8, s9, s10, .val (.str (cd X)), s, s13] := by
  have turn : ∀ z : Int, z = 0 ∨ z = 1 ∨ z = 2 → L1__law_bad ca [s0, s1, s2, s3, s4, s5, s6, s7, s8, s9, s10, .val (.str (cd X)), .val (.int z), s13] = .ok .nx [s0, s1, s2, s3, s4, s5, s6, s7, s8, s9, s10, .val (.str (cd X)), .val (.int z), s13] := by
    intro z hz
    obtain ⟨D, ρ, ρ', h1, h2, h3⟩ := (duo_all (ca := ca) hl z hz).same
    simp [L1__law_bad, h1, h2, h3]
  refine ⟨.val (.int 2), rfl, ?_⟩
  have e : forL (setS 12) (L1__law_bad ca) (rng 0 3) [s0, s1, s2, s3, s4, s5, s6, s7, s8, s9, s10, .val (.str (cd X)), s12, s13] = .ok .nx [s0, s1, s2, s3, s4, s5, s6, s7, s8, s9, s10, .val (.str (cd X)), .val (.int 2), s13] := by
    rw [rng3, forL_nx (run_setS (by simp) (by simp [h12])) (turn 0 (by simp)), forL_nx (run_setS (by simp) (by simp)) (turn 1 (by simp)), forL_nx (run_setS (by simp) (by simp)) (turn 2 (by simp))]
    exact forL_nil
  simp [L2__law_bad, e]
theorem lb_loop {s0 s1 s2 s3 s4 s5 s6 s7 s8 s9 s10 s13 : Sl} : ∀ (Xs : List (List Nat)) (s11 s12 : Sl), (∀ X ∈ Xs, X.length ≤ 1000) → isIo (some s11) = false → isIo (some s12) = false →
    ∃ s11' s12', forL (setS 11) (L2__law_bad ca) (pzs Xs) [s0, s1, s2, s3, s4, s5, s6, s7, s8, s9, s10, s11, s12, s13] = .ok .nx [s0, s1, s2, s3, s4, s5, s6, s7, s8, s9, s10, s11', s12', s13]
  | [], s11, s12, _, _, _ => ⟨s11, s12, rfl⟩
  | X :: Xs, s11, s12, h, h11, h12 => by
    obtain ⟨s, hs, t⟩ := lb_turn (ca := ca) (s0 := s0) (s1 := s1) (s2 := s2) (s3 := s3) (s4 := s4) (s5 := s5) (s6 := s6) (s7 := s7) (s8 := s8) (s9 := s9) (s10 := s10) (s13 := s13) (h X List.mem_cons_self) h12
    obtain ⟨a, b, ih⟩ := lb_loop (s0 := s0) (s1 := s1) (s2 := s2) (s3 := s3) (s4 := s4) (s5 := s5) (s6 := s6) (s7 := s7) (s8 := s8) (s9 := s9) (s10 := s10) (s13 := s13) Xs (.val (.str (cd X))) s (fun Y hY => h Y (List.mem_cons_of_mem _ hY)) rfl hs
    refine ⟨a, b, ?_⟩
    show forL _ _ (Dv.str (cd X) :: pzs Xs) _ = _
    rw [forL_nx (run_setS (by simp) (by simp [h11])) t]
    exact ih
theorem lb_comp {s1 s2 s3 s4 s5 s6 s7 s8 s9 s10 s11 s12 : Sl} : ∀ (n : Nat) (lo : Int) (p : List Int) (A : List (List Nat)) (s13 : Sl), p ≠ [] → A.length + n ≤ 1000 → isIo (some s13) = false →
    ∃ (p' : List Int) (W : List (List Nat)), p' ≠ [] ∧ W.length = A.length + n ∧ W.flatten.length = A.flatten.length + n ∧ compL [13] (setS 13) (pure true) (E1__law_bad ca) (rng lo n) (pzs A) [.mu true (.lst (iz p)), s1, s2, s3, s4, s5, s6, s7, s8, s9, s10, s11, s12, s13] =
      .ok (pzs W) [.mu true (.lst (iz p')), s1, s2, s3, s4, s5, s6, s7, s8, s9, s10, s11, s12, .no]
  | 0, lo, p, A, s13, hp, _, h13 => ⟨p, A, hp, rfl, rfl, by simp [rng_zero, compL, h13]; simp [P0.wipeE]⟩
  | n + 1, lo, p, A, s13, hp, hA, h13 => by
    obtain ⟨v, p1, s, v0, v1, n1, e1⟩ := run_draw (ca := ca) (m := 2) hp (Mod.of (by decide) (by decide))
    have hv : v = 0 ∨ v = 1 := by omega
    have ix : ∃ c, ∀ ρ, pIx (.str (cd [40, 41])) (.int v) ρ = .ok (.d (.str (cd [c]))) ρ := by
      rcases hv with rfl | rfl
      · exact ⟨40, fun ρ => by rw [cd_ix _ _ (by simp), show atI [40, 41] 0 = some 40 from atI_get (i := 0) rfl]⟩
      · exact ⟨41, fun ρ => by rw [cd_ix _ _ (by simp), show atI [40, 41] 1 = some 41 from atI_get (i := 1) rfl]⟩
    obtain ⟨c, ix⟩ := ix
    obtain ⟨p2, W, n2, l1, l2, ih⟩ := lb_comp (s1 := s1) (s2 := s2) (s3 := s3) (s4 := s4) (s5 := s5) (s6 := s6) (s7 := s7) (s8 := s8) (s9 := s9) (s10 := s10) (s11 := s11) (s12 := s12) n (lo + 1) p1 (A ++ [[c]]) (.val (.int lo)) n1 (by simp; omega) rfl
    refine ⟨p2, W, n2, by simp at l1; omega, by rw [l2, List.flatten_append, List.length_append, List.flatten_singleton, List.length_singleton]; omega, ?_⟩
    have z : A.length < sizeLine := szlt (by omega)
    rw [rng_succ, x_compL_1]
    have eE : E1__law_bad ca [.mu true (.lst (iz p)), s1, s2, s3, s4, s5, s6, s7, s8, s9, s10, s11, s12, .val (.int lo)] = .ok (.d (.str (cd [c]))) [.mu true (.lst (iz p1)), s1, s2, s3, s4, s5, s6, s7, s8, s9, s10, s11, s12, .val (.int lo)] := by
      simp [E1__law_bad, lit_oc, e1, ix]
    simp [h13, P0.wipeE, eE, z, ih]
def sgA : List Nat := [32, 33, 34, 35, 36, 38, 39, 42, 43, 44, 45, 46, 47, 48, 49, 50, 51, 52, 53, 54, 55, 56, 57, 58, 59, 60, 61, 62, 63, 64, 65, 66, 67, 68, 69, 70, 71, 72, 73, 74, 75, 76, 77, 78, 79, 80, 81, 82, 83, 84, 85, 86, 87, 88, 89, 90, 91, 92, 93, 94, 95, 96]
def sgB : List Nat := [97, 98, 99, 100, 101, 102, 103, 104, 105, 106, 107, 108, 109, 110, 111, 112, 113, 114, 115, 116, 117, 118, 119, 120, 121, 122, 123, 124, 125, 126]
theorem lit_A : Str.ofString " !\"#$&'*+,-./0123456789:;<=>?@ABCDEFGHIJKLMNOPQRSTUVWXYZ[\\]^_`" = cd sgA := by decide +kernel
theorem lit_B : Str.ofString "abcdefghijklmnopqrstuvwxyz{|}~" = cd sgB := by decide +kernel
def sgs : List Nat := sgA ++ sgB
theorem sgs_len : sgs.length = 92 := by decide +kernel
def oc62 : List Nat := (List.replicate 62 [40, 41]).flatten
def oc122 : List Nat := (List.replicate 122 [40, 41]).flatten
theorem mul_62 : Txt.mul (cd [40, 41]) 62 = cd oc62 := by decide +kernel
theorem mul_122 : Txt.mul (cd [40, 41]) 122 = cd oc122 := by decide +kernel
theorem oc62_len : oc62.length = 124 := by decide +kernel
theorem oc122_len : oc122.length = 244 := by decide +kernel
theorem lit_ll : Str.ofString "((" = cd [40, 40] := by decide +kernel
theorem lit_rr : Str.ofString "))" = cd [41, 41] := by decide +kernel
theorem lb_tail {p : List Int} {w : List Nat} {c : Nat} {X : List (List Nat)} {v3 : Int} {s2 s3 s5 s6 s7 : Sl} (hp : p ≠ []) (hw : w.length ≤ 240) (h0 : 0 ≤ v3) (h1 : v3 < 25) (hX : ∀ x ∈ X, x.length ≤ 1000) (lX : X.length ≤ 100) :
    ∃ (p' : List Int) (ρ : VE), p' ≠ [] ∧ R11__law_bad ca [.mu true (.lst (iz p)), .val (.str (cd w)), s2, s3, .val (.str (cd [c])), s5, s6, s7, .mu false (.lst (pzs X)), .val (.int v3), .no, .no, .no, .no] = .ok (.rt (.d (.bl true))) (.mu true (.lst (iz p')) :: ρ) := by
  obtain ⟨n, rfl⟩ := Int.eq_ofNat_of_zero_le h0
  obtain ⟨p1, W, n1, l1, l2, ec⟩ := lb_comp (ca := ca) (s1 := .val (.str (cd w))) (s2 := s2) (s3 := s3) (s4 := .val (.str (cd [c]))) (s5 := s5) (s6 := s6) (s7 := s7) (s8 := .mu false (.lst (pzs X))) (s9 := .val (.int n)) (s10 := .no) (s11 := .no) (s12 := .no) n 0 p [] .no hp (by simp; omega) rfl
  obtain ⟨v4, p2, t2, v40, v41, n2, e4⟩ := run_draw (ca := ca) (m := 3) n1 (Mod.of (by decide) (by decide))
  have j := fun ρ => join_pzs W (by rw [l2]; simp; omega) ρ
  have lW : W.flatten.length ≤ 25 := by rw [l2]; simp; omega
  generalize W.flatten = F at j lW
  have ec' : compL [13] (setS 13) (pure true) (E1__law_bad ca) (rng 0 n) [] _ = _ := ec
  have r1 : R62 (n : Int) := r62n (by omega)
  have p1s := fun lo hi ρ => pSl_cd oc62 lo hi (by rw [oc62_len]; decide) ρ
  have p2s := fun lo hi ρ => pSl_cd oc122 lo hi (by rw [oc122_len]; decide) ρ
  have p3s := fun lo hi ρ => pSl_cd (w ++ c :: List.replicate 130 40) lo hi (by simp; omega) ρ
  have p4s := fun lo hi ρ => pSl_cd (c :: List.replicate 250 40) lo hi (by simp) ρ
  have k1 := cut_le oc62 none (some (121 + v4))
  have k2 := cut_le oc122 none (some (121 + v4 + 120))
  have k3 := cut_le (w ++ c :: List.replicate 130 40) none (some (121 + v4))
  have k4 := cut_le (c :: List.replicate 250 40) none (some (121 + v4 + 120))
  rw [oc62_len] at k1
  rw [oc122_len] at k2
  simp only [List.length_append, List.length_cons, List.length_replicate] at k3 k4
  have z60 : cd [40] = cd [40] := rfl
  generalize hY1 : cut oc62 none (some (121 + v4)) = Y1 at k1
  generalize hY2 : cut oc122 none (some (121 + v4 + 120)) = Y2 at k2
  generalize hY3 : cut (w ++ c :: List.replicate 130 40) none (some (121 + v4)) = Y3 at k3
  generalize hY4 : cut (c :: List.replicate 250 40) none (some (121 + v4 + 120)) = Y4 at k4
  obtain ⟨a, b, ef⟩ := lb_loop (ca := ca) (s0 := .mu true (.lst (iz p2))) (s1 := .val (.str (cd w))) (s2 := s2) (s3 := s3) (s4 := .val (.str (cd [c]))) (s5 := s5) (s6 := s6) (s7 := s7)
    (s8 := .val (.lst (pzs (X ++ [F, [], [40], [41], [40, 41], [41, 40], [40, 40], [41, 41], [c], [c, 40], Y1, Y3, Y2, Y4])))) (s9 := .val (.int n)) (s10 := .val (.int (121 + v4))) (s13 := .no)
    (X ++ [F, [], [40], [41], [40, 41], [41, 40], [40, 40], [41, 41], [c], [c, 40], Y1, Y3, Y2, Y4]) .no .no (fun x hx => by
      rcases List.mem_append.mp hx with hx | hx
      · exact hX x hx
      · simp at hx
        rcases hx with rfl | rfl | rfl | rfl | rfl | rfl | rfl | rfl | rfl | rfl | rfl | rfl | rfl | rfl <;> first | omega | (simp; done) | (simp; omega)) rfl rfl
  have pa : pzs (X ++ [F, [], [40], [41], [40, 41], [41, 40], [40, 40], [41, 41], [c], [c, 40], Y1, Y3, Y2, Y4]) = pzs X ++ [.str (cd F), .str (cd []), .str (cd [40]), .str (cd [41]), .str (cd [40, 41]), .str (cd [41, 40]), .str (cd [40, 40]), .str (cd [41, 41]), .str (cd [c]), .str (cd [c, 40]), .str (cd Y1), .str (cd Y3), .str (cd Y2), .str (cd Y4)] := by
    unfold pzs
    rw [List.map_append]; rfl
  rw [pa] at ef
  have lp : (pzs X).length = X.length := pzs_length X
  generalize pzs X = PX at *
  refine ⟨p2, ?_⟩
  have key : ∃ ρ, R11__law_bad ca [.mu true (.lst (iz p)), .val (.str (cd w)), s2, s3, .val (.str (cd [c])), s5, s6, s7, .mu false (.lst PX), .val (.int n), .no, .no, .no, .no] = .ok (.rt (.d (.bl true))) (.mu true (.lst (iz p2)) :: ρ) := by
    simp (disch := omega) [-List.reduceReplicate, List.getElem?_cons_zero, R11__law_bad, R12__law_bad, R13__law_bad, R14__law_bad, R15__law_bad, r1, ec', lit_E, -x_pJoin, j, lp, szl, szl', lit_o, lit_c, lit_oc, lit_co, lit_ll, lit_rr, e4, mul_62, mul_122, cd_mul, p1s, p2s, p3s, p4s, hY1, hY2, hY3, hY4, R16__law_bad, R17__law_bad, walk?, items?, ef]
  obtain ⟨ρ, key⟩ := key
  exact ⟨ρ, n2, key⟩
theorem run_bad {p : List Int} {w u : List Nat} (hp : p ≠ []) (hw : w.length ≤ 240) (hu : u.length ≤ 240) :
    ∃ (p' : List Int) (ρ : VE), p' ≠ [] ∧ m__law_bad ca [.mu true (.lst (iz p)), .val (.str (cd w)), .val (.str (cd u))] = .ok (.d (.bl true)) (.mu true (.lst (iz p')) :: ρ) := by
  obtain ⟨v1, p1, t1, v10, v11, n1, e1⟩ := run_draw (ca := ca) (m := 92) hp (Mod.of (by decide) (by decide))
  obtain ⟨v2, p2, t2, v20, v21, n2, e2⟩ := run_draw (ca := ca) (m := (w.length : Int) + 1) n1 (Mod.of (by omega) (by omega))
  obtain ⟨v3, p3, t3, v30, v31, n3, e3⟩ := run_draw (ca := ca) (m := 25) n2 (Mod.of (by decide) (by decide))
  have ix : ∃ c, ∀ ρ, pIx (.str (cd sgs)) (.int v1) ρ = .ok (.d (.str (cd [c]))) ρ := by
    obtain ⟨k, rfl⟩ := Int.eq_ofNat_of_zero_le v10
    have hk : k < sgs.length := by rw [sgs_len]; omega
    exact ⟨sgs[k], fun ρ => cd_at (List.getElem?_eq_getElem hk) (by rw [sgs_len]; decide) ρ⟩
  obtain ⟨c, ix⟩ := ix
  have ls : sgA ++ sgB = sgs := rfl
  have la : sgA.length + sgB.length ≤ 1000000 := by decide
  have ql := qLen_cd w (by omega)
  have qs := qLen_cd sgs (by rw [sgs_len]; decide)
  rw [sgs_len] at qs
  have pw := fun lo hi ρ => pSl_cd w lo hi (by omega) ρ
  have c1 := cut_le w none (some v2)
  have c2 := cut_le w (some v2) none
  generalize hlo : cut w none (some v2) = lo at c1
  generalize hhi : cut w (some v2) none = hi at c2
  have key : ∃ (p' : List Int) (ρ : VE), p' ≠ [] ∧ R2__law_bad ca [.mu true (.lst (iz p)), .val (.str (cd w)), .val (.str (cd u)), .val (.str (cd sgs)), .no, .no, .no, .no, .no, .no, .no, .no, .no, .no] = .ok (.rt (.d (.bl true))) (.mu true (.lst (iz p')) :: ρ) := by
    obtain ⟨p4, ρ4, n4, e4⟩ := lb_tail (ca := ca) (p := p3) (w := w) (c := c) (X := [lo ++ c :: hi, 41 :: (lo ++ c :: (hi ++ [40])), lo ++ 41 :: hi, lo ++ 40 :: hi, w ++ 41 :: u, w ++ 40 :: u, lo ++ c :: 41 :: (u ++ [c])]) (v3 := v3) (s2 := .val (.str (cd u))) (s3 := .val (.str (cd sgs))) (s5 := .val (.int v2)) (s6 := .val (.str (cd lo))) (s7 := .val (.str (cd hi))) n3 hw v30 v31 (fun x hx => by
      simp at hx
      rcases hx with rfl | rfl | rfl | rfl | rfl | rfl | rfl <;> simp <;> omega) (by simp)
    refine ⟨p4, ρ4, n4, ?_⟩
    simp [pzs] at e4
    simp (disch := omega) [List.getElem?_cons_zero, e4, R2__law_bad, R3__law_bad, R4__law_bad, R5__law_bad, R6__law_bad, R7__law_bad, R8__law_bad, R9__law_bad, R10__law_bad, qs, ix, e1, e2, e3, ql, pw, hlo, hhi, lit_o, lit_c, szl, szl']
  obtain ⟨p', ρ, np, key⟩ := key
  have z : sgA.length + sgB.length ≤ sizeLine := szle la
  refine ⟨p', ρ, np, ?_⟩
  simp [m__law_bad, b__law_bad, R1__law_bad, lit_A, lit_B, z, ls, key]
end K41
end
section
set_option Elab.async false
set_option linter.all false
set_option maxRecDepth 100000
set_option maxHeartbeats 4000000
namespace K41
open PySem L2 P0
variable {ca : Nat → Addr}
/-! ### lists of words -/
def stepW (half : Nat) (w : List Nat) : List (List Nat) := (if w.count 40 < half then [w ++ [40]] else []) ++ (if w.count 41 < w.count 40 then [w ++ [41]] else [])
def wsN (half : Nat) : Nat → List (List Nat)
  | 0 => [[]]
  | k + 1 => (wsN half k).flatMap (stepW half)
structure OkW (half k : Nat) (w : List Nat) : Prop where
  l : w.length = k
  s : w.count 40 + w.count 41 = k
  a : w.count 41 ≤ w.count 40
  b : w.count 40 ≤ half
  m : ∀ c ∈ w, c = 40 ∨ c = 41
theorem stepW_ok {half k : Nat} {w : List Nat} (h : OkW half k w) : ∀ x ∈ stepW half w, OkW half (k + 1) x := by
  intro x hx
  have h1 := h.l
  have h2 := h.s
  have h3 := h.a
  have h4 := h.b
  unfold stepW at hx
  rcases List.mem_append.mp hx with hx | hx
  · split at hx
    · rw [List.mem_singleton.mp hx]
      refine ⟨by simp; omega, by simp [List.count_append, List.count_singleton]; omega, by simp [List.count_append, List.count_singleton]; omega, by simp [List.count_append, List.count_singleton]; omega, fun c hc => ?_⟩
      rcases List.mem_append.mp hc with hc | hc
      · exact h.m c hc
      · exact .inl (List.mem_singleton.mp hc)
    · cases hx
  · split at hx
    · rw [List.mem_singleton.mp hx]
      refine ⟨by simp; omega, by simp [List.count_append, List.count_singleton]; omega, by simp [List.count_append, List.count_singleton]; omega, by simp [List.count_append, List.count_singleton]; omega, fun c hc => ?_⟩
      rcases List.mem_append.mp hc with hc | hc
      · exact h.m c hc
      · exact .inr (List.mem_singleton.mp hc)
    · cases hx
theorem wsN_ok (half : Nat) : ∀ k, ∀ w ∈ wsN half k, OkW half k w
  | 0, w, hw => by
    rw [List.mem_singleton.mp hw]
    exact ⟨rfl, rfl, Nat.le_refl _, Nat.zero_le _, fun c hc => by cases hc⟩
  | k + 1, w, hw => by
    obtain ⟨x, hx, hw⟩ := List.mem_flatMap.mp hw
    exact stepW_ok (wsN_ok half k x hx) w hw
theorem stepW_len (half : Nat) (w : List Nat) : (stepW half w).length ≤ 2 := by
  unfold stepW
  rw [List.length_append]
  split <;> split <;> simp
theorem flat_len {α β : Type} (f : α → List β) (c : Nat) : ∀ l : List α, (∀ x ∈ l, (f x).length ≤ c) → (l.flatMap f).length ≤ l.length * c
  | [], _ => by simp
  | x :: l, h => by
    have := flat_len f c l fun y hy => h y (List.mem_cons_of_mem _ hy)
    have := h x List.mem_cons_self
    rw [List.flatMap_cons, List.length_append, List.length_cons, Nat.succ_mul]
    omega
theorem wsN_len (half : Nat) : ∀ k, (wsN half k).length ≤ 2 ^ k
  | 0 => Nat.le_refl _
  | k + 1 => by
    have ih := wsN_len half k
    have := flat_len (stepW half) 2 (wsN half k) fun x _ => stepW_len half x
    rw [wsN, Nat.pow_succ]
    omega
theorem wsN_le (half k : Nat) (h : k ≤ 14) : (wsN half k).length ≤ 16384 := Nat.le_trans (wsN_len half k) (Nat.pow_le_pow_right (by decide) h)
theorem lws_turn {half : Nat} {w : List Nat} {A : List (List Nat)} {s1 s2 s5 : Sl} (hw : w.length ≤ 1000) (hA : A.length ≤ 100000) (h5 : isIo (some s5) = false) :
    ∃ s5', isIo (some s5') = false ∧ L1__law_words ca [.val (.int half), s1, s2, .mu false (.lst (pzs A)), .val (.str (cd w)), s5] = .ok .nx [.val (.int half), s1, s2, .mu false (.lst (pzs (A ++ stepW half w))), .val (.str (cd w)), s5'] := by
  refine ⟨.val (.int (w.count 40 : Nat)), rfl, ?_⟩
  have z1 : A.length < sizeLine := szlt (by omega)
  have z2 : A.length + 1 < sizeLine := szlt (by omega)
  have z3 : w.length + 1 ≤ sizeLine := szle (by omega)
  unfold stepW
  by_cases a : w.count 40 < half
  · by_cases b : w.count 41 < w.count 40
    · rw [if_pos a, if_pos b]
      have e : pzs (A ++ ([w ++ [40]] ++ [w ++ [41]])) = pzs A ++ [.str (cd (w ++ [40])), .str (cd (w ++ [41]))] := by unfold pzs; rw [List.map_append]; rfl
      rw [e]
      have lp : (pzs A).length = A.length := pzs_length A
      generalize pzs A = PA at *
      simp [L1__law_words, lit_o, lit_c, cd_count, a, b, z1, z2, z3, h5, lp]
    · rw [if_pos a, if_neg b]
      have e : pzs (A ++ ([w ++ [40]] ++ [])) = pzs A ++ [.str (cd (w ++ [40]))] := by unfold pzs; rw [List.map_append]; rfl
      rw [e]
      have lp : (pzs A).length = A.length := pzs_length A
      generalize pzs A = PA at *
      simp [L1__law_words, lit_o, lit_c, cd_count, a, b, z1, z2, z3, h5, lp]
  · by_cases b : w.count 41 < w.count 40
    · rw [if_neg a, if_pos b]
      have e : pzs (A ++ ([] ++ [w ++ [41]])) = pzs A ++ [.str (cd (w ++ [41]))] := by unfold pzs; rw [List.map_append]; rfl
      rw [e]
      have lp : (pzs A).length = A.length := pzs_length A
      generalize pzs A = PA at *
      simp [L1__law_words, lit_o, lit_c, cd_count, a, b, z1, z2, z3, h5, lp]
    · rw [if_neg a, if_neg b]
      simp [L1__law_words, lit_o, lit_c, cd_count, a, b, z1, z2, z3, h5]
theorem lws_loop {half : Nat} {s1 s2 : Sl} : ∀ (ws A : List (List Nat)) (s4 s5 : Sl), (∀ w ∈ ws, w.length ≤ 1000) → A.length + 2 * ws.length ≤ 100000 → isIo (some s4) = false → isIo (some s5) = false →
    ∃ s4' s5', isIo (some s4') = false ∧ isIo (some s5') = false ∧ forL (setS 4) (L1__law_words ca) (pzs ws) [.val (.int half), s1, s2, .mu false (.lst (pzs A)), s4, s5] = .ok .nx [.val (.int half), s1, s2, .mu false (.lst (pzs (A ++ ws.flatMap (stepW half)))), s4', s5']
  | [], A, s4, s5, _, _, h4, h5 => ⟨s4, s5, h4, h5, by simp [pzs, forL_nil]⟩
  | w :: ws, A, s4, s5, hw, hl, h4, h5 => by
    rw [List.length_cons] at hl
    have sl := stepW_len half w
    obtain ⟨s5', k5, t⟩ := lws_turn (ca := ca) (half := half) (w := w) (A := A) (s1 := s1) (s2 := s2) (hw w List.mem_cons_self) (by omega) h5
    obtain ⟨a, b, ha, hb, ih⟩ := lws_loop (half := half) (s1 := s1) (s2 := s2) ws (A ++ stepW half w) (.val (.str (cd w))) s5' (fun x hx => hw x (List.mem_cons_of_mem _ hx)) (by rw [List.length_append]; omega) rfl k5
    refine ⟨a, b, ha, hb, ?_⟩
    show forL _ _ (Dv.str (cd w) :: pzs ws) _ = _
    rw [forL_nx (run_setS (by simp) (by simp [h4])) t, List.flatMap_cons, ← List.append_assoc]
    exact ih
theorem lws_turn2 {half k : Nat} {s1 s2 s3 s4 s5 : Sl} (hk : k < 14) (h1 : s1 = .mu false (.lst (pzs (wsN half k))) ∨ s1 = .val (.lst (pzs (wsN half k)))) (h3 : isIo (some s3) = false) (h4 : isIo (some s4) = false) (h5 : isIo (some s5) = false) :
    ∃ s3' s4' s5', isIo (some s3') = false ∧ isIo (some s4') = false ∧ isIo (some s5') = false ∧ L2__law_words ca [.val (.int half), s1, s2, s3, s4, s5] = .ok .nx [.val (.int half), .val (.lst (pzs (wsN half (k + 1)))), s2, s3', s4', s5'] := by
  have wl := wsN_le half k (by omega)
  obtain ⟨s4', s5', k4, k5, e⟩ := lws_loop (ca := ca) (half := half) (s1 := s1) (s2 := s2) (wsN half k) [] s4 s5 (fun w hw => by have := (wsN_ok half k w hw).l; omega) (by simp; omega) h4 h5
  refine ⟨.val (.lst (pzs (wsN half (k + 1)))), s4', s5', rfl, k4, k5, ?_⟩
  rw [List.nil_append] at e
  have e' : forL (setS 4) (L1__law_words ca) (pzs (wsN half k)) [.val (.int half), s1, s2, .mu false (.lst []), s4, s5] = _ := e
  rw [wsN]
  generalize pzs ((wsN half k).flatMap (stepW half)) = PY at *
  generalize pzs (wsN half k) = PX at *
  rcases h1 with rfl | rfl <;> simp [L2__law_words, h3, walk?, items?, e']
theorem lws_loop2 {half : Nat} : ∀ (n k : Nat) (s1 s2 s3 s4 s5 : Sl), k + n ≤ 14 → (s1 = .mu false (.lst (pzs (wsN half k))) ∨ s1 = .val (.lst (pzs (wsN half k)))) → isIo (some s2) = false → isIo (some s3) = false → isIo (some s4) = false → isIo (some s5) = false →
    ∃ s1' ρ, (s1' = .mu false (.lst (pzs (wsN half (k + n)))) ∨ s1' = .val (.lst (pzs (wsN half (k + n))))) ∧ forL (setS 2) (L2__law_words ca) (rng k n) [.val (.int half), s1, s2, s3, s4, s5] = .ok .nx (.val (.int half) :: s1' :: ρ)
  | 0, k, s1, s2, s3, s4, s5, _, h1, _, _, _, _ => ⟨s1, [s2, s3, s4, s5], h1, rfl⟩
  | n + 1, k, s1, s2, s3, s4, s5, hk, h1, h2, h3, h4, h5 => by
    obtain ⟨s3', s4', s5', k3, k4, k5, t⟩ := lws_turn2 (ca := ca) (s2 := .val (.int k)) (by omega) h1 h3 h4 h5
    obtain ⟨s1', ρ, o, ih⟩ := lws_loop2 n (k + 1) _ (.val (.int k)) s3' s4' s5' (by omega) (.inr rfl) rfl k3 k4 k5
    refine ⟨s1', ρ, by rw [show k + (n + 1) = k + 1 + n by omega]; exact o, ?_⟩
    rw [rng_succ, forL_nx (run_setS (by simp) (by rcases h1 with rfl | rfl <;> simp [h2])) t]
    exact ih
theorem run_words {half : Nat} (h : half ≤ 7) : ∃ rv ρ, (rv = .fr (.lst (pzs (wsN half (2 * half)))) ∨ rv = .d (.lst (pzs (wsN half (2 * half))))) ∧ m__law_words ca [.val (.int half)] = .ok rv ρ := by
  obtain ⟨s1, ρ, o, e⟩ := lws_loop2 (ca := ca) (half := half) (2 * half) 0 (.mu false (.lst [.str (cd [])])) .no .no .no .no (by omega) (.inl rfl) rfl rfl rfl rfl
  rw [Nat.zero_add] at o
  have cm : CMulW 2 (half : Int) := cmul (by omega) (by omega) (by omega) (by omega)
  have q : (2 * (half : Int)).toNat = 2 * half := by omega
  have r1 : R62 (2 * (half : Int)) := r62 (by omega) (by omega)
  have e' : forL (setS 2) (L2__law_words ca) (rng 0 (2 * half)) [.val (.int half), .mu false (.lst [.str (cd [])]), .no, .no, .no, .no] = _ := e
  generalize pzs (wsN half (2 * half)) = PX at *
  rcases o with rfl | rfl
  · refine ⟨.fr (.lst PX), ?_⟩
    simp [m__law_words, b__law_words, lit_E, cm, q, r1, e']
  · refine ⟨.d (.lst PX), ?_⟩
    simp [m__law_words, b__law_words, lit_E, cm, q, r1, e']
end K41
end
section
set_option Elab.async false
set_option linter.all false
set_option maxRecDepth 100000
set_option maxHeartbeats 4000000
namespace K41
open PySem L2 P0
variable {ca : Nat → Addr}
/-! ### bracket_words -/
def hw (w : List Nat) : Dv := .tup [.str (cd w), .int (pz w)]
def ysD : List Dv := [.tup [.str (cd [40]), .int 1], .tup [.str (cd [41]), .int (-1)]]
theorem pz_app (w : List Nat) : pz (w ++ [40]) = pz w + 1 ∧ pz (w ++ [41]) = pz w + -1 := by
  rw [pz_snoc w 40 (.inl rfl), pz_snoc w 41 (.inr rfl)]; exact ⟨rfl, rfl⟩
theorem bw_inner {half k : Nat} {w : List Nat} {s1 s4 : Sl} {left : Int} {acc : List Dv} (h : OkW half k w) (hk : k < 2 * half) (hh : half ≤ 100) (hl : left = 2 * (half : Int) - 1 - k) (ha : acc.length + 2 < sizeLine) :
    compL [6, 7] (gT 2 (gC (setS 6) (gC (setS 7) gN))) (T1_bracket_words ca) (E1_bracket_words ca) ysD acc [.val (.int half), s1, .val (.int left), .val (.str (cd w)), s4, .val (.int (pz w)), .no, .no] =
      .ok (acc ++ (stepW half w).map hw) [.val (.int half), s1, .val (.int left), .val (.str (cd w)), s4, .val (.int (pz w)), .no, .no] := by
  have h1 := h.l
  have h2 := h.s
  have h3 := h.a
  have h4 := h.b
  have c1 : (0 ≤ pz w + 1 ∧ pz w + 1 ≤ left) ↔ w.count 40 < half := by unfold pz; omega
  have c2 : (0 ≤ pz w + -1 ∧ pz w + -1 ≤ left) ↔ w.count 41 < w.count 40 := by unfold pz; omega
  obtain ⟨p1, p2⟩ := pz_app w
  have z1 : acc.length < sizeLine := by omega
  have z2 : acc.length + 1 < sizeLine := by omega
  have z3 : w.length + 1 ≤ sizeLine := szle (by omega)
  have t1 : T1_bracket_words ca [.val (.int half), s1, .val (.int left), .val (.str (cd w)), s4, .val (.int (pz w)), .val (.str (cd [40])), .val (.int 1)] = .ok (decide (w.count 40 < half)) [.val (.int half), s1, .val (.int left), .val (.str (cd w)), s4, .val (.int (pz w)), .val (.str (cd [40])), .val (.int 1)] := by
    rw [show decide (w.count 40 < half) = (decide (0 ≤ pz w + 1) && decide (pz w + 1 ≤ left)) by rw [← Bool.decide_and]; exact decide_eq_decide.mpr c1.symm]
    by_cases a : 0 ≤ pz w + 1
    · simp [T1_bracket_words, a]
    · simp [T1_bracket_words, a]
  have t2 : T1_bracket_words ca [.val (.int half), s1, .val (.int left), .val (.str (cd w)), s4, .val (.int (pz w)), .val (.str (cd [41])), .val (.int (-1))] = .ok (decide (w.count 41 < w.count 40)) [.val (.int half), s1, .val (.int left), .val (.str (cd w)), s4, .val (.int (pz w)), .val (.str (cd [41])), .val (.int (-1))] := by
    rw [show decide (w.count 41 < w.count 40) = (decide (0 ≤ pz w + -1) && decide (pz w + -1 ≤ left)) by rw [← Bool.decide_and]; exact decide_eq_decide.mpr c2.symm]
    by_cases a : 0 ≤ pz w + -1
    · simp [T1_bracket_words, a]
    · simp [T1_bracket_words, a]
  have e1 : E1_bracket_words ca [.val (.int half), s1, .val (.int left), .val (.str (cd w)), s4, .val (.int (pz w)), .val (.str (cd [40])), .val (.int 1)] = .ok (.d (hw (w ++ [40]))) [.val (.int half), s1, .val (.int left), .val (.str (cd w)), s4, .val (.int (pz w)), .val (.str (cd [40])), .val (.int 1)] := by
    simp [E1_bracket_words, z3, hw, p1]
  have e2 : E1_bracket_words ca [.val (.int half), s1, .val (.int left), .val (.str (cd w)), s4, .val (.int (pz w)), .val (.str (cd [41])), .val (.int (-1))] = .ok (.d (hw (w ++ [41]))) [.val (.int half), s1, .val (.int left), .val (.str (cd w)), s4, .val (.int (pz w)), .val (.str (cd [41])), .val (.int (-1))] := by
    simp [E1_bracket_words, z3, hw, p2]
  unfold stepW ysD
  by_cases a : w.count 40 < half
  · by_cases b : w.count 41 < w.count 40
    · simp [x_compL_0, x_compL_1, t1, t2, e1, e2, a, b, z1, z2, P0.wipeE]
    · simp [x_compL_0, x_compL_1, t1, t2, e1, e2, a, b, z1, z2, P0.wipeE]
  · by_cases b : w.count 41 < w.count 40
    · simp [x_compL_0, x_compL_1, t1, t2, e1, e2, a, b, z1, z2, P0.wipeE]
    · simp [x_compL_0, x_compL_1, t1, t2, e1, e2, a, b, z1, z2, P0.wipeE]
theorem bw_turn {half k : Nat} {s3 s4 s5 s6 s7 : Sl} {left : Int} (hk : k < 2 * half) (hh : half ≤ 7) (hl : left = 2 * (half : Int) - 1 - k) (h3 : isIo (some s3) = false) (h5 : isIo (some s5) = false) (h6 : isIo (some s6) = false) (h7 : isIo (some s7) = false) :
    L1_bracket_words ca [.val (.int half), .mu false (.lst ((wsN half k).map hw)), .val (.int left), s3, s4, s5, s6, s7] = .ok .nx [.val (.int half), .mu false (.lst ((wsN half (k + 1)).map hw)), .val (.int left), .no, s4, .no, .no, .no] := by
  have wl := wsN_le half k (by omega)
  have c := compL2_gen (vs := [3, 5, 6, 7]) (mg := gT 2 (gC (setS 3) (gC (setS 5) gN))) (mi1 := iSeq (sub (eC (.tup ysD)))) (mc := compL [6, 7] (gT 2 (gC (setS 6) (gC (setS 7) gN))) (T1_bracket_words ca) (E1_bracket_words ca))
    (ρ0 := [.val (.int half), .val (.lst ((wsN half k).map hw)), .val (.int left), .no, s4, .no, .no, .no]) hw (fun w => (stepW half w).map hw) ysD 2
    (fun w => [.val (.int half), .val (.lst ((wsN half k).map hw)), .val (.int left), .val (.str (cd w)), s4, .val (.int (pz w)), .no, .no]) (fun w => [.val (.int half), .val (.lst ((wsN half k).map hw)), .val (.int left), .val (.str (cd w)), s4, .val (.int (pz w)), .no, .no])
    (wsN half k) [] [.val (.int half), .val (.lst ((wsN half k).map hw)), .val (.int left), s3, s4, s5, s6, s7] (by simp [h3, h5, h6, h7]) (by simp [P0.wipeE])
    (fun w hw' => ⟨by simp [hw], by simp [walk?, items?], by simpa using stepW_len half w, fun acc ha => bw_inner (wsN_ok half k w hw') hk (by omega) hl ha, by simp [P0.wipeE], by simp⟩) (by simp; exact szlt (by omega))
  rw [List.nil_append] at c
  have e : (wsN half k).flatMap (fun w => (stepW half w).map hw) = (wsN half (k + 1)).map hw := by rw [wsN, List.map_flatMap]
  rw [e] at c
  generalize (wsN half (k + 1)).map hw = PY at *
  generalize (wsN half k).map hw = PX at *
  have y : ([Dv.tup [.str "(", .int 1], Dv.tup [.str ")", .int (-1)]] : List Dv) = ysD := by unfold ysD; rw [lit_o, lit_c]
  simp only [L1_bracket_words, y]
  generalize ysD = YY at *
  simp [walk?, items?, c]
theorem bw_loop {half : Nat} (hh : half ≤ 7) : ∀ (n k : Nat) (s2 s3 s4 s5 s6 s7 : Sl), k + n = 2 * half → isIo (some s2) = false → isIo (some s3) = false → isIo (some s5) = false → isIo (some s6) = false → isIo (some s7) = false →
    ∃ s2' s3' s5' s6' s7', isIo (some s2') = false ∧ isIo (some s3') = false ∧ isIo (some s5') = false ∧ forL (setS 2) (L1_bracket_words ca) (rngC (2 * (half : Int) - 1 - k) (-1) n) [.val (.int half), .mu false (.lst ((wsN half k).map hw)), s2, s3, s4, s5, s6, s7] =
      .ok .nx [.val (.int half), .mu false (.lst ((wsN half (k + n)).map hw)), s2', s3', s4, s5', s6', s7']
  | 0, k, s2, s3, s4, s5, s6, s7, _, h2, h3, h5, h6, h7 => ⟨s2, s3, s5, s6, s7, h2, h3, h5, rfl⟩
  | n + 1, k, s2, s3, s4, s5, s6, s7, hk, h2, h3, h5, h6, h7 => by
    have t := bw_turn (ca := ca) (half := half) (k := k) (s4 := s4) (left := 2 * (half : Int) - 1 - k) (by omega) hh rfl h3 h5 h6 h7
    obtain ⟨a, b, c, d, e, ha, hb, hc, ih⟩ := bw_loop hh n (k + 1) (.val (.int (2 * (half : Int) - 1 - k))) .no s4 .no .no .no (by omega) rfl rfl rfl rfl rfl
    refine ⟨a, b, c, d, e, ha, hb, hc, ?_⟩
    have r : rngC (2 * (half : Int) - 1 - k) (-1) (n + 1) = .int (2 * (half : Int) - 1 - k) :: rngC (2 * (half : Int) - 1 - (k + 1 : Nat)) (-1) n := by
      unfold rngC
      rw [List.range_succ_eq_map, List.map_cons, List.map_map]
      congr 1
      · simp
      · apply List.map_congr_left
        intro i _
        simp
        omega
    rw [r, forL_nx (run_setS (by simp) (by simp [h2])) t, show k + (n + 1) = k + 1 + n by omega]
    exact ih
theorem rg_small : ∀ h : Nat, h ≤ 7 → Builtin.Range.small (2 * (h : Int) - 1) (-1) (-1) = true ∧ Builtin.Range.rangeSize (2 * (h : Int) - 1) (-1) (-1) = 2 * (h : Int) := by
  intro h hh
  have : h = 0 ∨ h = 1 ∨ h = 2 ∨ h = 3 ∨ h = 4 ∨ h = 5 ∨ h = 6 ∨ h = 7 := by omega
  rcases this with rfl | rfl | rfl | rfl | rfl | rfl | rfl | rfl <;> decide +kernel
theorem run_iR3 {h : Nat} (hh : h ≤ 7) {ma : M (List AV)} {ρ ρ' : VE} (e : ma ρ = .ok [.d (.int (2 * (h : Int) - 1)), .d (.int (-1)), .d (.int (-1))] ρ') : iRange3 ma ρ = .ok (rngC (2 * (h : Int) - 1) (-1) (2 * h)) ρ' := by
  obtain ⟨a, b⟩ := rg_small h hh
  have q : (2 * (h : Int)).toNat = 2 * h := by omega
  have c : ((-1 : Int) ≠ 0 ∧ (-1 : Int).natAbs < 1073741824 ∧ Builtin.Range.small (2 * (h : Int) - 1) (-1) (-1) = true ∧ 0 ≤ Builtin.Range.rangeSize (2 * (h : Int) - 1) (-1) (-1)) := ⟨by decide, by decide, a, by rw [b]; omega⟩
  unfold iRange3
  rw [run_bind, e]
  show ((M.grd _ >>= fun _ => pure (rngC (2 * (h : Int) - 1) (-1) (Builtin.Range.rangeSize (2 * (h : Int) - 1) (-1) (-1)).toNat)) : M (List Dv)) ρ' = _
  rw [run_bind, run_grd, if_pos c, b, q]; rfl
theorem run_bwords {half : Nat} (h : half ≤ 7) : ∃ ρ, m_bracket_words ca [.val (.int half)] = .ok (pzs (wsN half (2 * half))) ρ := by
  have e0 := run_check_number (ca := ca) (n := half) (lo := 0) (hi := 7) (by omega) (by omega)
  have cm : CMulW 2 (half : Int) := cmul (by omega) (by omega) (by omega) (by omega)
  obtain ⟨s2, s3, s5, s6, s7, k2, k3, k5, e⟩ := bw_loop (ca := ca) h (2 * half) 0 .no .no .no .no .no .no (by omega) rfl rfl rfl rfl rfl
  rw [show 2 * (half : Int) - 1 - (0 : Nat) = 2 * (half : Int) - 1 by omega, Nat.zero_add] at e
  have e' : forL (setS 2) (L1_bracket_words ca) (rngC (2 * (half : Int) - 1) (-1) (2 * half)) [.val (.int half), .mu false (.lst [.tup [.str (cd []), .int 0]]), .no, .no, .no, .no, .no, .no] = _ := e
  have r3 := run_iR3 (ρ := [.val (.int half), .mu false (.lst [.tup [.str (cd []), .int 0]]), .no, .no, .no, .no, .no, .no]) (ρ' := [.val (.int half), .mu false (.lst [.tup [.str (cd []), .int 0]]), .no, .no, .no, .no, .no, .no]) h
    (ma := (aC (sub (b2 pSub (sub (b2 pMul (sub (eC (.int 2))) (sub (eV 0)))) (sub (eC (.int 1))))) (aC (sub (b1 pNeg (sub (eC (.int 1))))) (aC (sub (b1 pNeg (sub (eC (.int 1))))) aN)))) (by simp [cm])
  have wl := wsN_le half (2 * half) (by omega)
  obtain ⟨ρ, _, y⟩ := forY_map (mg := gT 2 (gC (setS 3) (gC (setS 4) gN))) (me := sub (eV 3)) hw (fun w => .str (cd w)) (fun ρ => ∃ t3 t4, isIo (some t3) = false ∧ isIo (some t4) = false ∧ ρ = [.val (.int half), .val (.lst ((wsN half (2 * half)).map hw)), s2, t3, t4, s5, s6, s7])
    (fun w ρ hρ => by
      obtain ⟨t3, t4, h3, h4, rfl⟩ := hρ
      exact ⟨[.val (.int half), .val (.lst ((wsN half (2 * half)).map hw)), s2, .val (.str (cd w)), .val (.int (pz w)), s5, s6, s7], by simp [hw, h3, h4], by simp, _, _, rfl, rfl, rfl⟩)
    (wsN half (2 * half)) [.val (.int half), .val (.lst ((wsN half (2 * half)).map hw)), s2, s3, .no, s5, s6, s7] ⟨_, _, k3, rfl, rfl⟩
  have z : ((wsN half (2 * half)).map hw).length < sizeLine := szlt (by simp; omega)
  have py : (wsN half (2 * half)).map (fun w => Dv.str (cd w)) = pzs (wsN half (2 * half)) := rfl
  rw [py] at y
  generalize (wsN half (2 * half)).map hw = PX at *
  generalize pzs (wsN half (2 * half)) = PY at *
  refine ⟨ρ, ?_⟩
  rw [m_bracket_words, runG_def]
  simp [b_bracket_words, e0, lit_E, r3, e', walk?, items?, z, y]
end K41
end
section
set_option Elab.async false
set_option linter.all false
set_option maxRecDepth 100000
set_option maxHeartbeats 4000000
namespace K41
open PySem L2 P0
variable {ca : Nat → Addr}
noncomputable def fpN (n k : Nat) : Nat := Nat.rec (motive := fun _ => Nat) 1 (fun i p => p * (n - i)) k
theorem fp_R (n : Nat) : ∀ k, k ≤ n → Builtin.Math.fallingProduct (n : Int) k = ((fpN n k : Nat) : Int)
  | 0, _ => rfl
  | k + 1, h => by
    have ih := fp_R n k (by omega)
    unfold Builtin.Math.fallingProduct at ih ⊢
    rw [List.range_succ, List.foldl_append, ih, List.foldl_cons, List.foldl_nil]
    show ((fpN n k : Nat) : Int) * ((n : Int) - k) = ((fpN n k * (n - k) : Nat) : Int)
    rw [Int.natCast_mul, Int.ofNat_sub (by omega)]
/-! ### counts -/
noncomputable def binN (s k : Nat) : Nat := fpN s (Nat.min k (s - k)) / fpN (Nat.min k (s - k)) (Nat.min k (s - k))
theorem comb_bin {s k : Nat} (h : k ≤ s) : PySem.W.mcComb (s : Int) (k : Int) = ((binN s k : Nat) : Int) := by
  unfold binN
  have m1 : min (k : Int) ((s : Int) - k) = ((Nat.min k (s - k) : Nat) : Int) := by
    show _ = ((min k (s - k) : Nat) : Int)
    omega
  rw [PySem.W.mcComb_at (by omega) (by omega) m1, Int.toNat_natCast]
  have l1 : Nat.min k (s - k) ≤ s := Nat.le_trans (Nat.min_le_left _ _) (by omega)
  rw [fp_R s _ l1, fp_R _ _ (Nat.le_refl _), ← Int.natCast_ediv]
def catL : List Nat := [1, 1, 2, 5, 14, 42, 132, 429, 1430, 4862, 16796, 58786, 208012, 742900, 2674440, 9694845, 35357670, 129644790, 477638700, 1767263190, 6564120420, 24466267020, 91482563640, 343059613650, 1289904147324, 4861946401452, 18367353072152, 69533550916004, 263747951750360, 1002242216651368, 3814986502092304, 14544636039226909, 55534064877048198, 212336130412243110, 812944042149730764, 3116285494907301262, 11959798385860453492, 45950804324621742364, 176733862787006701400, 680425371729975800390, 2622127042276492108820, 10113918591637898134020, 39044429911904443959240, 150853479205085351660700, 583300119592996693088040, 2257117854077248073253720, 8740328711533173390046320, 33868773757191046886429490, 131327898242169365477991900, 509552245179617138054608572, 1978261657756160653623774456, 7684785670514316385230816156, 29869166945772625950142417512, 116157871455782434250553845880, 451959718027953471447609509424, 1759414616608818870992479875972, 6852456927844873497549658464312, 26700952856774851904245220912664, 104088460289122304033498318812080, 405944995127576985730643443367112, 1583850964596120042686772779038896]
def nxt (l : List Nat) : Nat := ((List.range l.length).map fun k => l.getD k 0 * l.getD (l.length - 1 - k) 0).sum
theorem cat_len : catL.length = 61 := by decide +kernel
theorem cat_nxt : ((List.range 60).all fun n => Nat.beq (nxt (catL.take (n + 1))) (catL.getD (n + 1) 0)) = true := by decide +kernel
theorem cat_bin : ((List.range 61).all fun n => Nat.beq (binN (2 * n) n / (n + 1)) (catL.getD n 0) && Nat.blt (binN (2 * n) n) (2 ^ 200) && Nat.blt (catL.getD n 0) (2 ^ 120)) = true := by decide +kernel
theorem cat_ws : ((List.range 8).all fun h => Nat.beq (wsN h (2 * h)).length (catL.getD h 0)) = true := by decide +kernel
theorem cat_at {n : Nat} (h : n ≤ 60) : binN (2 * n) n / (n + 1) = catL.getD n 0 ∧ binN (2 * n) n < 2 ^ 200 ∧ catL.getD n 0 < 2 ^ 120 := by
  have := List.all_eq_true.mp cat_bin n (List.mem_range.mpr (by omega))
  simp only [Bool.and_eq_true, Nat.beq_eq, Nat.blt_eq] at this
  exact ⟨this.1.1, this.1.2, this.2⟩
theorem cat_get {n : Nat} (h : n ≤ 60) : catL[n]? = some (catL.getD n 0) := by
  have hn : n < catL.length := by rw [cat_len]; omega
  rw [List.getD_eq_getElem?_getD, List.getElem?_eq_getElem hn]; rfl
theorem ws_count {h : Nat} (hh : h ≤ 7) : (wsN h (2 * h)).length = catL.getD h 0 := by
  have := List.all_eq_true.mp cat_ws h (List.mem_range.mpr (by omega))
  simpa only [Nat.beq_eq] using this
theorem run_bcount {h : Nat} (hh : h ≤ 60) : ∃ ρ, m_bracket_count ca [.val (.int h)] = .ok (.d (.int (catL.getD h 0 : Nat))) ρ := by
  have e0 := run_check_number (ca := ca) (n := h) (lo := 0) (hi := 60) (by omega) (by omega)
  have cm : CMulW 2 (h : Int) := cmul (by omega) (by omega) (by omega) (by omega)
  obtain ⟨c1, c2, c3⟩ := cat_at hh
  have q : PySem.W.mcComb (2 * (h : Int)) (h : Int) = ((binN (2 * h) h : Nat) : Int) := by
    have := comb_bin (s := 2 * h) (k := h) (by omega)
    rw [Int.natCast_mul] at this
    exact this
  have g : 0 ≤ 2 * (h : Int) ∧ 2 * (h : Int) ≤ 18000 := by omega
  have dv : CDivW ((binN (2 * h) h : Nat) : Int) ((h : Int) + 1) := (Mod.of (by omega) (by omega)).div _
  have dq : ((binN (2 * h) h : Nat) : Int) / ((h : Int) + 1) = ((catL.getD h 0 : Nat) : Int) := by
    rw [← c1, Int.natCast_ediv]; rfl
  generalize binN (2 * h) h = B at *
  generalize catL.getD h 0 = C at *
  simp [m_bracket_count, b_bracket_count, e0, cm, q, g, dv, dq]
theorem exc_bcount {z : Int} (h : z < 0 ∨ 60 < z) : ∃ ρ, m_bracket_count ca [.val (.int z)] = .exc ⟨"NumberError", some [("number", .int z)]⟩ ρ := by
  obtain ⟨ρ, e⟩ := exc_check_number (ca := ca) h
  simp [m_bracket_count, b_bracket_count, e]
theorem run_count {h : Nat} (hh : h ≤ 60) : ∃ ρ, m__law_count ca [.val (.int h)] = .ok (.fr (.lst [.str "told", .int (catL.getD h 0 : Nat)])) ρ := by
  obtain ⟨ρ, e⟩ := run_bcount (ca := ca) hh
  generalize catL.getD h 0 = C at *
  simp [m__law_count, b__law_count, e]
theorem exc_count {z : Int} (h : z < 0 ∨ 60 < z) : ∃ ρ, m__law_count ca [.val (.int z)] = .ok (.fr (.lst [.str "number", .int z, .bl false])) ρ := by
  obtain ⟨ρ, e⟩ := exc_bcount (ca := ca) h
  simp [m__law_count, b__law_count, e]
theorem run_list {h : Nat} (hh : h ≤ 7) : ∃ ρ, m__law_list ca [.val (.int h)] = .ok (.fr (.lst [.str "told", .lst (pzs (wsN h (2 * h)))])) ρ := by
  obtain ⟨ρ, e⟩ := run_bwords (ca := ca) hh
  generalize pzs (wsN h (2 * h)) = PX at *
  simp [m__law_list, b__law_list, e]
theorem exc_list {z : Int} (h : z < 0 ∨ 7 < z) : ∃ ρ, m__law_list ca [.val (.int z)] = .ok (.fr (.lst [.str "number", .int z, .bl false])) ρ := by
  obtain ⟨ρ, e⟩ := exc_check_number (ca := ca) h
  have e2 : ∃ ρ, m_bracket_words ca [.val (.int z)] = .exc ⟨"NumberError", some [("number", .int z)]⟩ ρ := by
    rw [m_bracket_words, runG_def]
    simp [b_bracket_words, e]
  obtain ⟨ρ2, e2⟩ := e2
  simp [m__law_list, b__law_list, e2]
/-! ### _law_counts -/
def ni (l : List Nat) : List Dv := l.map fun n : Nat => .int (n : Int)
theorem ni_at {l : List Nat} {k c : Nat} (h : l[k]? = some c) : atI (ni l) (k : Int) = some (.int (c : Int)) := by
  refine atI_get ?_
  unfold ni
  rw [List.getElem?_map, h]; rfl
theorem ints_ni (l : List Nat) : ints? (ni l) = some (l.map fun n : Nat => (n : Int)) := by
  have : ni l = iz (l.map fun n : Nat => (n : Int)) := by unfold ni iz; rw [List.map_map]; rfl
  rw [this, ints_iz]
theorem sum_cast (l : List Nat) : (l.map fun n : Nat => (n : Int)).sum = ((l.sum : Nat) : Int) := by
  induction l with
  | nil => rfl
  | cons a l ih => rw [List.map_cons, List.sum_cons, List.sum_cons, ih]; omega
theorem lc_comp {n : Nat} {s0 : Sl} (hn : n < 60) : compL [3] (setS 3) (pure true) (E1__law_counts ca) (rng 0 (n + 1)) [] [s0, .mu false (.lst (ni (catL.take (n + 1)))), .val (.int n), .no] =
    .ok (ni ((List.range (n + 1)).map fun k => (catL.take (n + 1)).getD k 0 * (catL.take (n + 1)).getD (n + 1 - 1 - k) 0)) [s0, .mu false (.lst (ni (catL.take (n + 1)))), .val (.int n), .no] := by
  have lt : (catL.take (n + 1)).length = n + 1 := by rw [List.length_take, cat_len]; omega
  have g : ∀ k, k ≤ n → (catL.take (n + 1))[k]? = some ((catL.take (n + 1)).getD k 0) ∧ (catL.take (n + 1)).getD k 0 < 2 ^ 120 := by
    intro k hk
    have h1 : (catL.take (n + 1))[k]? = some (catL.getD k 0) := by rw [List.getElem?_take_of_lt (by omega), cat_get (by omega)]
    have h2 : (catL.take (n + 1)).getD k 0 = catL.getD k 0 := by rw [List.getD_eq_getElem?_getD, h1]; rfl
    rw [h2]
    exact ⟨h1, (cat_at (by omega)).2.2⟩
  generalize catL.take (n + 1) = L at *
  have c := compL_all (vs := [3]) (mg := setS 3) (me := E1__law_counts ca) (ρ0 := [s0, .mu false (.lst (ni L)), .val (.int n), .no]) (fun k : Nat => Dv.int (0 + (k : Int))) (fun k => .int ((L.getD k 0 * L.getD (n + 1 - 1 - k) 0 : Nat) : Int))
    (fun k => [s0, .mu false (.lst (ni L)), .val (.int n), .val (.int k)]) (List.range (n + 1)) [] [s0, .mu false (.lst (ni L)), .val (.int n), .no] rfl rfl
    (fun k hk => by
      have hk := List.mem_range.mp hk
      obtain ⟨g1, b1⟩ := g k (by omega)
      obtain ⟨g2, b2⟩ := g (n + 1 - 1 - k) (by omega)
      have a1 := ni_at g1
      have a2 := ni_at g2
      have q : ((n + 1 - 1 - k : Nat) : Int) = (n : Int) - k := by omega
      rw [q] at a2
      have cm : CMulW ((L.getD k 0 : Nat) : Int) ((L.getD (n + 1 - 1 - k) 0 : Nat) : Int) := by
        have x := lg (z := ((L.getD k 0 : Nat) : Int)) (k := 120) (by rw [Int.natAbs_natCast]; exact b1) (by decide)
        have y := lg (z := ((L.getD (n + 1 - 1 - k) 0 : Nat) : Int)) (k := 120) (by rw [Int.natAbs_natCast]; exact b2) (by decide)
        show _ + _ < 1000000
        omega
      rw [Int.natCast_mul]
      generalize L.getD k 0 = A at *
      generalize L.getD (n + 1 - 1 - k) 0 = B at *
      exact ⟨by simp, by simp [E1__law_counts, a1, a2, cm], rfl, rfl⟩)
    (by rw [List.length_nil, Nat.zero_add, List.length_range]; exact szlt (by omega))
  refine Eq.trans c ?_
  rw [List.nil_append]
  unfold ni
  rw [List.map_map]; rfl
theorem lc_loop {s0 : Sl} : ∀ (k n : Nat) (s2 : Sl), n + k = 60 → isIo (some s2) = false → ∃ s2', forL (setS 2) (L1__law_counts ca) (rng n k) [s0, .mu false (.lst (ni (catL.take (n + 1)))), s2, .no] = .ok .nx [s0, .mu false (.lst (ni catL)), s2', .no]
  | 0, n, s2, h, h2 => ⟨s2, by
    have : n = 60 := by omega
    subst this
    have ct : catL.take (60 + 1) = catL := List.take_of_length_le (by rw [cat_len]; omega)
    rw [ct]
    exact forL_nil⟩
  | k + 1, n, s2, h, h2 => by
    have c := lc_comp (ca := ca) (s0 := s0) (n := n) (by omega)
    have sm := List.all_eq_true.mp cat_nxt n (List.mem_range.mpr (by omega))
    rw [Nat.beq_eq] at sm
    have lt : (catL.take (n + 1)).length = n + 1 := by rw [List.length_take, cat_len]; omega
    unfold nxt at sm
    rw [lt] at sm
    have tk : ni (catL.take (n + 1)) ++ [.int ((catL.getD (n + 1) 0 : Nat) : Int)] = ni (catL.take (n + 1 + 1)) := by
      rw [List.take_succ (i := n + 1), cat_get (by omega)]
      unfold ni
      rw [List.map_append]; rfl
    obtain ⟨s2', ih⟩ := lc_loop (s0 := s0) k (n + 1) (.val (.int n)) (by omega) rfl
    refine ⟨s2', ?_⟩
    rw [rng_succ]
    have r1 : R62 ((n : Int) + 1) := r62 (by omega) (by omega)
    have q : ((n : Int) + 1).toNat = n + 1 := by omega
    have lL : (ni (catL.take (n + 1))).length = n + 1 := by unfold ni; rw [List.length_map, lt]
    have z : n + 1 < sizeLine := szlt (by omega)
    have is := ints_ni ((List.range (n + 1)).map fun k => (catL.take (n + 1)).getD k 0 * (catL.take (n + 1)).getD (n + 1 - 1 - k) 0)
    have ss := sum_cast ((List.range (n + 1)).map fun k => (catL.take (n + 1)).getD k 0 * (catL.take (n + 1)).getD (n + 1 - 1 - k) 0)
    rw [sm] at ss
    rw [← tk] at ih
    generalize ni ((List.range (n + 1)).map fun k => (catL.take (n + 1)).getD k 0 * (catL.take (n + 1)).getD (n + 1 - 1 - k) 0) = NN at *
    generalize ((List.range (n + 1)).map fun k => (catL.take (n + 1)).getD k 0 * (catL.take (n + 1)).getD (n + 1 - 1 - k) 0) = MM at *
    generalize (MM.map fun n : Nat => (n : Int)) = ZZ at *
    generalize ni (catL.take (n + 1)) = LL at *
    have b : L1__law_counts ca [s0, .mu false (.lst LL), .val (.int n), .no] = .ok .nx [s0, .mu false (.lst (LL ++ [.int ((catL.getD (n + 1) 0 : Nat) : Int)])), .val (.int n), .no] := by
      generalize catL.getD (n + 1) 0 = C at *
      simp [L1__law_counts, r1, q, c, is, ss, lL, z]
    have q1 : ((n + 1 : Nat) : Int) = (n : Int) + 1 := by omega
    rw [q1] at ih
    generalize catL.getD (n + 1) 0 = C at *
    generalize ni catL = CC at *
    have g : setS 2 (.int (n : Int)) [s0, .mu false (.lst LL), s2, .no] = .ok () [s0, .mu false (.lst LL), .val (.int n), .no] := run_setS (by simp) (by simp [h2])
    exact (forL_nx g b).trans ih
theorem run_counts : ∃ ρ, m__law_counts ca [.val (.int 60)] = .ok (.fr (.lst (ni catL))) ρ := by
  obtain ⟨s, e⟩ := lc_loop (ca := ca) (s0 := .val (.int 60)) 60 0 .no (by omega) rfl
  have c0 : catL.take (0 + 1) = [1] := by decide +kernel
  have c1 : ni (catL.take (0 + 1)) = [.int 1] := by rw [c0]; rfl
  simp only [c1] at e
  have hr : rng ((0 : Nat) : Int) 60 = rng 0 60 := rfl
  rw [hr] at e
  have r3 : ∀ ρ, rg1 (some [60]) ρ = P0.R.ok (rng 0 60) ρ := by
    intro ρ
    rw [x_rg1, if_pos (r62 (by decide) (by decide)), show (60 : Int).toNat = 60 from rfl]
  generalize ni catL = LL at *
  generalize rng 0 60 = RR at *
  simp [m__law_counts, b__law_counts, -x_rg1, r3, e]
end K41
end
section
set_option Elab.async false
set_option linter.all false
set_option maxRecDepth 100000
set_option maxHeartbeats 4000000
namespace K41
open PySem L2 P0
variable {ca : Nat → Addr}
theorem sh_num {z : Int} (h : z.natAbs < 2 ^ 1000) : Sh [.str "told", .int z] := by
  have s0 : PyData.strOk "told" = true ∧ ("told" : Str).cps.size ≤ 10 := by decide +kernel
  have a := showI h
  simp only [PyData.showable] at a
  refine ⟨?_, ?_, ?_, ?_⟩
  · simp [isDts, isDt, s0.1]
  · simp [dpDs, dpD]
  · simp only [toPys, toPy, PyData.showableAll, PyData.showable]
    simp [a]
  · have := s0.2
    simp only [toPys, toPy, PyData.bulkAll, PyData.bulk]; omega
def T20 : Int := 10 ^ 20
theorem pow20 (ρ : VE) : pPow (.int 10) (.int 20) ρ = .ok (.d (.int T20)) ρ := by
  have : CPow 10 20 := ⟨by decide, by decide, by decide⟩
  simp [this]
  rfl
/-! ### _law_lists -/
theorem isDts_pzs {ws : List (List Nat)} (h : ∀ w ∈ ws, ∀ c ∈ w, c < 1000) : isDts (pzs ws) = true := by
  induction ws with
  | nil => rfl
  | cons w ws ih =>
    have := strOk_cd (h w List.mem_cons_self)
    have := ih fun x hx => h x (List.mem_cons_of_mem _ hx)
    show isDts (.str (cd w) :: pzs ws) = true
    simp [isDts, isDt, *]
theorem dpDs_pzs (ws : List (List Nat)) : dpDs (pzs ws) = 0 := by
  induction ws with
  | nil => rfl
  | cons w ws ih =>
    show dpDs (.str (cd w) :: pzs ws) = 0
    simp [dpDs, dpD, ih]
theorem show_pzs (ws : List (List Nat)) : PyData.showableAll (toPys (pzs ws)) = true := by
  induction ws with
  | nil => rfl
  | cons w ws ih =>
    show PyData.showableAll (toPys (.str (cd w) :: pzs ws)) = true
    simp [toPys, toPy, PyData.showableAll, PyData.showable, ih]
theorem bulk_pzs {ws : List (List Nat)} {k : Nat} (h : ∀ w ∈ ws, w.length = k) : PyData.bulkAll (toPys (pzs ws)) = (k + 1) * ws.length := by
  induction ws with
  | nil => rfl
  | cons w ws ih =>
    have := ih fun x hx => h x (List.mem_cons_of_mem _ hx)
    have e1 : (cd w).cps.size = w.length := by simp
    show PyData.bulkAll (toPys (.str (cd w) :: pzs ws)) = _
    simp only [toPys, toPy, PyData.bulkAll, PyData.bulk, this, e1, h w List.mem_cons_self, List.length_cons, Nat.mul_succ]
    omega
theorem cat_small : ((List.range 8).all fun h => Nat.ble ((2 * h + 1) * catL.getD h 0) 7000) = true := by decide +kernel
theorem sh_ws {h : Nat} (hh : h ≤ 7) : Sh [.str "told", .lst (pzs (wsN h (2 * h)))] := by
  have s0 : PyData.strOk "told" = true ∧ ("told" : Str).cps.size ≤ 10 := by decide +kernel
  have ok := wsN_ok h (2 * h)
  have a1 := isDts_pzs (ws := wsN h (2 * h)) (fun w hw c hc => by rcases (ok w hw).m c hc with rfl | rfl <;> decide)
  have a2 := dpDs_pzs (wsN h (2 * h))
  have a3 := show_pzs (wsN h (2 * h))
  have a4 := bulk_pzs (ws := wsN h (2 * h)) (k := 2 * h) (fun w hw => (ok w hw).l)
  rw [ws_count hh] at a4
  have sm := List.all_eq_true.mp cat_small h (List.mem_range.mpr (by omega))
  rw [Nat.ble_eq] at sm
  generalize pzs (wsN h (2 * h)) = PX at *
  refine ⟨?_, ?_, ?_, ?_⟩
  · simp [isDts, isDt, s0.1, a1]
  · simp [dpDs, dpD, a2]
  · simp [toPys, toPy, PyData.showableAll, PyData.showable, a3]
  · have := s0.2
    simp only [toPys, toPy, PyData.bulkAll, PyData.bulk, a4]
    omega
theorem pick3 {w v : Int} (h0 : 0 ≤ w) (h1 : w < 3) (v0 : 0 ≤ v) (v1 : v < 61) : ∃ b : Nat, b ≤ 60 ∧ atI [Dv.int 0, .int 60, .int v] w = some (.int b) := by
  obtain ⟨n, rfl⟩ := Int.eq_ofNat_of_zero_le v0
  have : w = ((0 : Nat) : Int) ∨ w = ((1 : Nat) : Int) ∨ w = ((2 : Nat) : Int) := by omega
  rcases this with rfl | rfl | rfl
  · exact ⟨0, by omega, atI_get rfl⟩
  · exact ⟨60, by omega, atI_get rfl⟩
  · exact ⟨n, by omega, atI_get rfl⟩
theorem ll_tail {p : List Int} {h : Nat} {s4 s5 s6 : Sl} (hp : p ≠ []) (hh : h ≤ 7) (h4 : isIo (some s4) = false) (h5 : isIo (some s5) = false) (h6 : isIo (some s6) = false) :
    ∃ (p' : List Int) (ρ : VE), p' ≠ [] ∧ R2__law_lists ca [.mu true (.lst (iz p)), .val (.int h), .no, .no, s4, s5, s6] = .ok (.rt (.d (.bl true))) (.mu true (.lst (iz p')) :: ρ) := by
  obtain ⟨rv, ρ1, o, e1⟩ := run_words (ca := ca) hh
  obtain ⟨ρ2, e2⟩ := run_counts (ca := ca)
  obtain ⟨ρ3, e3⟩ := run_list (ca := ca) hh
  obtain ⟨ρ4, e4⟩ := run_count (ca := ca) (h := h) (by omega)
  have s1 := Sh.same (ca := ca) (sh_ws hh)
  have s2 := Sh.same (ca := ca) (sh_num (z := (catL.getD h 0 : Nat)) (by rw [Int.natAbs_natCast]; exact Nat.lt_trans (cat_at (n := h) (by omega)).2.2 (Nat.pow_lt_pow_right (by decide) (by decide))))
  obtain ⟨v1, p1, t1, v10, v11, n1, d1⟩ := run_draw (ca := ca) (m := 61) hp (Mod.of (by decide) (by decide))
  obtain ⟨v2, p2, t2, v20, v21, n2, d2⟩ := run_draw (ca := ca) (m := 3) n1 (Mod.of (by decide) (by decide))
  obtain ⟨b, hb, a1⟩ := pick3 v20 v21 v10 v11
  obtain ⟨v3, p3, t3, v30, v31, n3, d3⟩ := run_draw (ca := ca) (m := T20) n2 (Mod.of (by decide) (by decide))
  obtain ⟨v4, p4, t4, v40, v41, n4, d4⟩ := run_draw (ca := ca) (m := 4) n3 (Mod.of (by decide) (by decide))
  obtain ⟨v5, p5, t5, v50, v51, n5, d5⟩ := run_draw (ca := ca) (m := 4) n4 (Mod.of (by decide) (by decide))
  obtain ⟨z1, hz1, b1⟩ := moves_at v40 v41 (-1) 8 (-1 - v3) (8 + v3)
  obtain ⟨z2, hz2, b2⟩ := moves_at v50 v51 (-1) 61 (-1 - v3) (61 + v3)
  have T : T20 ≤ 10 ^ 20 := by unfold T20; decide
  obtain ⟨ρ5, e5⟩ := run_count (ca := ca) hb
  have s3 := Sh.same (ca := ca) (sh_num (z := (catL.getD b 0 : Nat)) (by rw [Int.natAbs_natCast]; exact Nat.lt_trans (cat_at hb).2.2 (Nat.pow_lt_pow_right (by decide) (by decide))))
  have a2 := ni_at (cat_get hb)
  obtain ⟨ρ6, e6⟩ := exc_list (ca := ca) (z := z1) (by rcases hz1 with rfl | rfl | rfl | rfl <;> omega)
  obtain ⟨ρ7, e7⟩ := exc_count (ca := ca) (z := z2) (by rcases hz2 with rfl | rfl | rfl | rfl <;> omega)
  have s4' := Sh.same (ca := ca) (sh_3 (s := "number") (z := z1) (by decide +kernel) (by rcases hz1 with rfl | rfl | rfl | rfl <;> omega) (by rcases hz1 with rfl | rfl | rfl | rfl <;> omega))
  have s5' := Sh.same (ca := ca) (sh_3 (s := "number") (z := z2) (by decide +kernel) (by rcases hz2 with rfl | rfl | rfl | rfl <;> omega) (by rcases hz2 with rfl | rfl | rfl | rfl <;> omega))
  have lW : (pzs (wsN h (2 * h))).length = catL.getD h 0 := by rw [pzs_length, ws_count hh]
  have lz : (pzs (wsN h (2 * h))).length ≤ sizeLine := szle (by rw [pzs_length]; have := wsN_le h (2 * h) (by omega); omega)
  generalize pzs (wsN h (2 * h)) = PX at *
  generalize ni catL = LL at *
  generalize catL.getD h 0 = C1 at *
  generalize catL.getD b 0 = C2 at *
  have key : ∃ ρ, R2__law_lists ca [.mu true (.lst (iz p)), .val (.int h), .no, .no, s4, s5, s6] = .ok (.rt (.d (.bl true))) (.mu true (.lst (iz p5)) :: ρ) := by
    rcases o with rfl | rfl
    · simp [R2__law_lists, R3__law_lists, R4__law_lists, R5__law_lists, R6__law_lists, R7__law_lists, R8__law_lists, R9__law_lists, R10__law_lists, R11__law_lists, R12__law_lists, -x_pPow_0, pow20, h4, h5, h6, e1, e2, e3, e4, s1, s2, lW, d1, d2, a1, d3, e5, a2, s3, d4, b1, e6, s4', d5, b2, e7, s5']
    · simp [R2__law_lists, R3__law_lists, R4__law_lists, R5__law_lists, R6__law_lists, R7__law_lists, R8__law_lists, R9__law_lists, R10__law_lists, R11__law_lists, R12__law_lists, -x_pPow_0, pow20, h4, h5, h6, e1, e2, e3, e4, s1, s2, lW, d1, d2, a1, d3, e5, a2, s3, d4, b1, e6, s4', d5, b2, e7, s5']
  obtain ⟨ρ, key⟩ := key
  exact ⟨p5, ρ, n5, key⟩
theorem run_lists {p : List Int} (hp : p ≠ []) : ∃ (p' : List Int) (ρ : VE), p' ≠ [] ∧ m__law_lists ca [.mu true (.lst (iz p))] = .ok (.d (.bl true)) (.mu true (.lst (iz p')) :: ρ) := by
  obtain ⟨v1, p1, t1, v10, v11, n1, d1⟩ := run_draw (ca := ca) (m := 6) hp (Mod.of (by decide) (by decide))
  obtain ⟨v2, p2, t2, v20, v21, n2, d2⟩ := run_draw (ca := ca) (m := 16) n1 (Mod.of (by decide) (by decide))
  obtain ⟨h, rfl⟩ := Int.eq_ofNat_of_zero_le v10
  by_cases hz : v2 = 0
  · obtain ⟨p3, ρ, n3, t⟩ := ll_tail (ca := ca) (h := 7) (s4 := .no) (s5 := .no) (s6 := .no) n2 (by omega) rfl rfl rfl
    rw [show ((7 : Nat) : Int) = 7 from rfl] at t
    have key : ∃ ρ, m__law_lists ca [.mu true (.lst (iz p))] = .ok (.d (.bl true)) (.mu true (.lst (iz p3)) :: ρ) := by
      simp [m__law_lists, b__law_lists, R1__law_lists, d1, d2, hz, t]
    obtain ⟨ρ, key⟩ := key
    exact ⟨p3, ρ, n3, key⟩
  · obtain ⟨p3, ρ, n3, t⟩ := ll_tail (ca := ca) (h := h) (s4 := .no) (s5 := .no) (s6 := .no) n2 (by omega) rfl rfl rfl
    have key : ∃ ρ, m__law_lists ca [.mu true (.lst (iz p))] = .ok (.d (.bl true)) (.mu true (.lst (iz p3)) :: ρ) := by
      simp [m__law_lists, b__law_lists, R1__law_lists, d1, d2, hz, t]
    obtain ⟨ρ, key⟩ := key
    exact ⟨p3, ρ, n3, key⟩
end K41
end
section
set_option Elab.async false
set_option linter.all false
set_option maxRecDepth 100000
set_option maxHeartbeats 4000000
namespace K41
open PySem L2 P0
variable {ca : Nat → Addr}
theorem tops_cons {w : List Nat} (h0 : w ≠ []) (hf : flt w = none) : ∃ z l, hts 40 41 none 0 w = z :: l := by
  obtain ⟨e, r, m, c, rfl⟩ := dec h0 ((flt_rd _).mp hf)
  exact ⟨_, _, tops_word c none⟩
theorem math : ∀ (ca : Nat → Addr) (ns : List Int), ns.length ≤ 63 → (∀ z ∈ ns, Builtin.Int.intBits z ≤ 1048576) → ∃ ρ, m_law ca [P0.Sl.val (.rls (ns.map P0.Dv.int))] = .ok (.d (.bl true)) ρ := by
  intro ca ns hns _
  show ∃ ρ, m_law ca [.val (.rls (iz ns))] = _
  obtain ⟨ρ0, e0⟩ := run_pool (ca := ca) ns (by omega)
  have hp : (0 :: (ns.take 63).map fun i => absI i % T60) ≠ [] := List.cons_ne_nil _ _
  generalize (0 :: (ns.take 63).map fun i => absI i % T60) = p at *
  obtain ⟨v1, p1, s1, v10, v11, n1, e1⟩ := run_draw (ca := ca) (m := 6) hp (Mod.of (by decide) (by decide))
  obtain ⟨p2, S, m, ρ2, n2, hS, hm, hl, hb, e2⟩ := run_stairs (ca := ca) (rows := 1 + v1) n1 (by omega) (by omega)
  obtain ⟨v3, p3, s3, v30, v31, n3, e3⟩ := run_draw (ca := ca) (m := 12) n2 (Mod.of (by decide) (by decide))
  obtain ⟨a, rfl⟩ := Int.eq_ofNat_of_zero_le v30
  obtain ⟨p4, w, ρ4, n4, hw, lw, e4⟩ := run_word (ca := ca) (half := 1 + a) n3 (by omega)
  obtain ⟨v5, p5, s5, v50, v51, n5, e5⟩ := run_draw (ca := ca) (m := 6) n4 (Mod.of (by decide) (by decide))
  obtain ⟨b, rfl⟩ := Int.eq_ofNat_of_zero_le v50
  obtain ⟨p6, u, ρ6, n6, hu, lu, e6⟩ := run_word (ca := ca) (half := b) n5 (by omega)
  obtain ⟨v7, p7, s7, v70, v71, n7, e7⟩ := run_draw (ca := ca) (m := 8) n6 (Mod.of (by decide) (by decide))
  obtain ⟨p8, ρ8, n8, e8⟩ := run_law_lane (ca := ca) n7 hS (by omega) hm
  obtain ⟨p9, ρ9, n9, e9⟩ := run_not_let (ca := ca) n8 hS (by omega) (by omega)
  obtain ⟨ρ10, e10⟩ := run_good (ca := ca) (w := w) (by omega) hw
  obtain ⟨ρ11, e11⟩ := run_good (ca := ca) (w := u) (by omega) hu
  obtain ⟨ρ12, e12⟩ := run_tops (ca := ca) (w := w) (by omega) hw
  obtain ⟨z, l, hz⟩ := tops_cons (w := w) (by rintro rfl; simp at lw; omega) hw
  have zl := hts_len 40 41 w none 0
  rw [hz] at e12 zl
  obtain ⟨D, ρ13, ρ14, d1, d2, d3⟩ := (duo0 (ca := ca) (w := w) (by omega)).same
  have zz : l.length + 1 < sizeLine := szlt (by rw [List.length_cons] at zl; omega)
  have i0 : iz (z :: l) = .int z :: iz l := rfl
  rw [i0] at e12
  rw [show ((1 + a : Nat) : Int) = 1 + (a : Int) by omega] at e4
  have tail : ∀ (q : List Int) (s6 : Sl), q ≠ [] → isIo (some s6) = false → ∃ ρ, R8_law ca [.val (.rls (iz ns)), .mu false (.lst (iz q)), .val (.lst (rz (rowsZ S))), .val (.str (cd w)), .val (.str (cd u)), .val (.bl (decide (v7 = 0))), s6, .no] = .ok (.rt (.d (.bl true))) ρ := by
    intro q s6 hq h6
    obtain ⟨q1, ρ1, k1, f1⟩ := run_bad (ca := ca) (w := w) (u := u) hq (by omega) (by omega)
    obtain ⟨q2, ρ2, k2, f2⟩ := run_lists (ca := ca) k1
    simp [R8_law, R9_law, R10_law, R11_law, e12, atI0, zz, d1, d2, d3, f1, f2]
  by_cases hz : v7 = 0
  · obtain ⟨v8, q1, t1, v80, v81, k1, f1⟩ := run_draw (ca := ca) (m := 21) n9 (Mod.of (by decide) (by decide))
    obtain ⟨q2, H, k, σ2, k2, hH, hk, hlH, hbH, f2⟩ := run_stairs (ca := ca) (rows := 40 + v8) k1 (by omega) (by omega)
    obtain ⟨q3, σ3, k3, f3⟩ := run_law_lane (ca := ca) k2 hH (by omega) hk
    obtain ⟨q4, w4, σ4, k4, hw4, l4, f4⟩ := run_word (ca := ca) (half := 60) k3 (by omega)
    obtain ⟨σ5, f5⟩ := run_good (ca := ca) (w := w4) (by omega) hw4
    obtain ⟨q6, w6, σ6, k6, hw6, l6, f6⟩ := run_word (ca := ca) (half := 120) k4 (by omega)
    obtain ⟨σ7, f7⟩ := run_good (ca := ca) (w := w6) (by omega) hw6
    obtain ⟨ρ, t⟩ := tail q6 (.val (.lst (rz (rowsZ H)))) k6 rfl
    simp [hz] at t
    rw [show ((60 : Nat) : Int) = 60 from rfl] at f4
    rw [show ((120 : Nat) : Int) = 120 from rfl] at f6
    simp [m_law, b_law, R1_law, R2_law, R3_law, R4_law, R5_law, R6_law, R7_law, e0, e1, e2, e3, e4, e5, e6, e7, hz, e8, e9, e10, e11, f1, f2, f3, f4, f5, f6, f7, t]
  · obtain ⟨ρ, t⟩ := tail p9 .no n9 rfl
    simp [hz] at t
    simp [m_law, b_law, R1_law, R2_law, R3_law, R4_law, R5_law, R6_law, R7_law, e0, e1, e2, e3, e4, e5, e6, e7, hz, e8, e9, e10, e11, t]
end K41
end
open PySem PySem.W PyProof.Rows
set_option linter.all false
set_option maxRecDepth 100000 in
set_option maxHeartbeats 0 in
theorem PySem.Challenge.cw_rimmachines_k41_stair_words_holds : PySem.Challenge.rw_rimmachines_k41_stair_words.Holds := by
  w_on; o_law; k_head; (case hw => w_witness2)
  k_fill
  refine P0.walk_P0c (l := PySem.Challenge.rw_rimmachines_k41_stair_words) (n := 63) (k := 10) (x := "script") (φ := K41.m_law) rfl (by decide) rfl ⟨rfl, by decide, by decide⟩ (fun w h Y => PySem.W.kIn_of Y) ?F ?math
  case F =>
    intro w mg fa h KX G hmg
    refine' K41.all_mk KX G hmg ?ac5 ?a0 ?l0 ?c0 ?k0 ?a1 ?l1 ?c1 ?k1 ?a2 ?l2 ?c2 ?k2 ?a3 ?l3 ?c3 ?k3 ?a4 ?l4 ?c4 ?k4 ?a5 ?l5 ?c5 ?k5 ?a6 ?l6 ?c6 ?k6 ?a7 ?l7 ?c7 ?k7 ?a8 ?l8 ?c8 ?k8 ?a9 ?l9 ?c9 ?k9 ?a10 ?l10 ?c10 ?k10 ?a11 ?l11 ?c11 ?k11 ?fi_Lane_init ?fn_Lane_init ?l12 ?c12 ?k12 ?a13 ?l13 ?c13 ?k13 ?a14 ?l14 ?c14 ?k14 ?a15 ?l15 ?c15 ?k15 ?a16 ?l16 ?c16 ?k16 ?a17 ?l17 ?c17 ?k17 ?a18 ?l18 ?c18 ?k18 ?a19 ?l19 ?c19 ?k19 ?a20 ?l20 ?c20 ?k20 ?a21 ?l21 ?c21 ?k21 ?a22 ?l22 ?c22 ?k22 ?a23 ?l23 ?c23 ?k23 ?a24 ?l24 ?c24 ?k24 ?a25 ?l25 ?c25 ?k25 ?a26 ?l26 ?c26 ?k26 ?a27 ?l27 ?c27 ?k27 ?a28 ?l28 ?c28 ?k28 ?a29 ?l29 ?c29 ?k29 ?a30 ?l30 ?c30 ?k30 ?a31 ?l31 ?c31 ?k31 ?a32 ?l32 ?c32 ?k32 ?a33 ?l33 ?c33 ?k33 ?a34 ?l34 ?c34 ?k34 ?a35 ?l35 ?c35 ?k35 ?a36 ?l36 ?c36 ?k36 ?a37 ?l37 ?c37 ?k37 ?z_abs ?z_enumerate ?z_int ?z_isinstance ?z_len ?z_list ?z_max ?z_min ?z_range ?z_repr ?z_sum ?z_tuple ?y_FAR ?y_MOST ?yd_STEPS ?kd_STEPS ?ac0 ?hg0 ?hk0 ?hs0 ?hd0 ?ha0 ?hm0 ?ty0 ?nst0 ?ac1 ?hg1 ?hk1 ?hs1 ?hd1 ?ha1 ?hm1 ?ty1 ?nst1 ?ac2 ?hg2 ?hk2 ?hs2 ?hd2 ?ha2 ?hm2 ?ty2 ?nst2 ?ac3 ?hg3 ?hk3 ?hs3 ?hd3 ?ha3 ?hm3 ?ty3 ?nst3 ?ac4 ?hg4 ?hk4 ?hs4 ?hd4 ?ha4 ?hm4 ?ty4 ?nst4 ?hn ?ht ?im_comb ?om_Lane ?oq_Lane ?og_Lane ?od_Lane ?oo_Lane ?os_Lane ?oh_Lane ?ow_Lane ?on_Lane_stretches ?on_Lane_height ?p0_0 ?p0_1 ?p0_2 ?p0_3 ?p0_4 ?p1_0 ?p1_1 ?p1_2 ?p1_3 ?p1_4 ?p2_0 ?p2_1 ?p2_2 ?p2_3 ?p2_4 ?p3_0 ?p3_1 ?p3_2 ?p3_3 ?p3_4 ?p4_0 ?p4_1 ?p4_2 ?p4_3 ?p4_4 ?no3_at ?no1_number ?no2_count ?no4_at ?xl1 ?xr1 ?sa1 ?kc1 ?ic1 ?xl2 ?xr2 ?sa2 ?kc2 ?ic2 ?xl3 ?xr3 ?sa3 ?kc3 ?ic3 ?xl4 ?xr4 ?sa4 ?kc4 ?ic4 ?li0 ?ci0 ?ki0 ?iti0 ?li1 ?ci1 ?ki1 ?iti1 ?li2 ?ci2 ?ki2 ?iti2 ?li3 ?ci3 ?ki3 ?iti3
    (case ac5 => first | k_is | rfl | decide +kernel)
    (case a0 => first | k_is | rfl | decide +kernel)
    (case l0 => first | k_is | rfl | decide +kernel)
    (case c0 => first | k_is | rfl | decide +kernel)
    (case k0 => first | k_is | rfl | decide +kernel)
    (case a1 => first | k_is | rfl | decide +kernel)
    (case l1 => first | k_is | rfl | decide +kernel)
    (case c1 => first | k_is | rfl | decide +kernel)
    (case k1 => first | k_is | rfl | decide +kernel)
    (case a2 => first | k_is | rfl | decide +kernel)
    (case l2 => first | k_is | rfl | decide +kernel)
    (case c2 => first | k_is | rfl | decide +kernel)
    (case k2 => first | k_is | rfl | decide +kernel)
    (case a3 => first | k_is | rfl | decide +kernel)
    (case l3 => first | k_is | rfl | decide +kernel)
    (case c3 => first | k_is | rfl | decide +kernel)
    (case k3 => first | k_is | rfl | decide +kernel)
    (case a4 => first | k_is | rfl | decide +kernel)
    (case l4 => first | k_is | rfl | decide +kernel)
    (case c4 => first | k_is | rfl | decide +kernel)
    (case k4 => first | k_is | rfl | decide +kernel)
    (case a5 => first | k_is | rfl | decide +kernel)
    (case l5 => first | k_is | rfl | decide +kernel)
    (case c5 => first | k_is | rfl | decide +kernel)
    (case k5 => first | k_is | rfl | decide +kernel)
    (case a6 => first | k_is | rfl | decide +kernel)
    (case l6 => first | k_is | rfl | decide +kernel)
    (case c6 => first | k_is | rfl | decide +kernel)
    (case k6 => first | k_is | rfl | decide +kernel)
    (case a7 => first | k_is | rfl | decide +kernel)
    (case l7 => first | k_is | rfl | decide +kernel)
    (case c7 => first | k_is | rfl | decide +kernel)
    (case k7 => first | k_is | rfl | decide +kernel)
    (case a8 => first | k_is | rfl | decide +kernel)
    (case l8 => first | k_is | rfl | decide +kernel)
    (case c8 => first | k_is | rfl | decide +kernel)
    (case k8 => first | k_is | rfl | decide +kernel)
    (case a9 => first | k_is | rfl | decide +kernel)
    (case l9 => first | k_is | rfl | decide +kernel)
    (case c9 => first | k_is | rfl | decide +kernel)
    (case k9 => first | k_is | rfl | decide +kernel)
    (case a10 => first | k_is | rfl | decide +kernel)
    (case l10 => first | k_is | rfl | decide +kernel)
    (case c10 => first | k_is | rfl | decide +kernel)
    (case k10 => first | k_is | rfl | decide +kernel)
    (case a11 => first | k_is | rfl | decide +kernel)
    (case l11 => first | k_is | rfl | decide +kernel)
    (case c11 => first | k_is | rfl | decide +kernel)
    (case k11 => first | k_is | rfl | decide +kernel)
    (case fi_Lane_init => first | k_is | rfl | decide +kernel)
    (case fn_Lane_init => first | k_is | rfl | decide +kernel)
    (case l12 => first | k_is | rfl | decide +kernel)
    (case c12 => first | k_is | rfl | decide +kernel)
    (case k12 => first | k_is | rfl | decide +kernel)
    (case a13 => first | k_is | rfl | decide +kernel)
    (case l13 => first | k_is | rfl | decide +kernel)
    (case c13 => first | k_is | rfl | decide +kernel)
    (case k13 => first | k_is | rfl | decide +kernel)
    (case a14 => first | k_is | rfl | decide +kernel)
    (case l14 => first | k_is | rfl | decide +kernel)
    (case c14 => first | k_is | rfl | decide +kernel)
    (case k14 => first | k_is | rfl | decide +kernel)
    (case a15 => first | k_is | rfl | decide +kernel)
    (case l15 => first | k_is | rfl | decide +kernel)
    (case c15 => first | k_is | rfl | decide +kernel)
    (case k15 => first | k_is | rfl | decide +kernel)
    (case a16 => first | k_is | rfl | decide +kernel)
    (case l16 => first | k_is | rfl | decide +kernel)
    (case c16 => first | k_is | rfl | decide +kernel)
    (case k16 => first | k_is | rfl | decide +kernel)
    (case a17 => first | k_is | rfl | decide +kernel)
    (case l17 => first | k_is | rfl | decide +kernel)
    (case c17 => first | k_is | rfl | decide +kernel)
    (case k17 => first | k_is | rfl | decide +kernel)
    (case a18 => first | k_is | rfl | decide +kernel)
    (case l18 => first | k_is | rfl | decide +kernel)
    (case c18 => first | k_is | rfl | decide +kernel)
    (case k18 => first | k_is | rfl | decide +kernel)
    (case a19 => first | k_is | rfl | decide +kernel)
    (case l19 => first | k_is | rfl | decide +kernel)
    (case c19 => first | k_is | rfl | decide +kernel)
    (case k19 => first | k_is | rfl | decide +kernel)
    (case a20 => first | k_is | rfl | decide +kernel)
    (case l20 => first | k_is | rfl | decide +kernel)
    (case c20 => first | k_is | rfl | decide +kernel)
    (case k20 => first | k_is | rfl | decide +kernel)
    (case a21 => first | k_is | rfl | decide +kernel)
    (case l21 => first | k_is | rfl | decide +kernel)
    (case c21 => first | k_is | rfl | decide +kernel)
    (case k21 => first | k_is | rfl | decide +kernel)
    (case a22 => first | k_is | rfl | decide +kernel)
    (case l22 => first | k_is | rfl | decide +kernel)
    (case c22 => first | k_is | rfl | decide +kernel)
    (case k22 => first | k_is | rfl | decide +kernel)
    (case a23 => first | k_is | rfl | decide +kernel)
    (case l23 => first | k_is | rfl | decide +kernel)
    (case c23 => first | k_is | rfl | decide +kernel)
    (case k23 => first | k_is | rfl | decide +kernel)
    (case a24 => first | k_is | rfl | decide +kernel)
    (case l24 => first | k_is | rfl | decide +kernel)
    (case c24 => first | k_is | rfl | decide +kernel)
    (case k24 => first | k_is | rfl | decide +kernel)
    (case a25 => first | k_is | rfl | decide +kernel)
    (case l25 => first | k_is | rfl | decide +kernel)
    (case c25 => first | k_is | rfl | decide +kernel)
    (case k25 => first | k_is | rfl | decide +kernel)
    (case a26 => first | k_is | rfl | decide +kernel)
    (case l26 => first | k_is | rfl | decide +kernel)
    (case c26 => first | k_is | rfl | decide +kernel)
    (case k26 => first | k_is | rfl | decide +kernel)
    (case a27 => first | k_is | rfl | decide +kernel)
    (case l27 => first | k_is | rfl | decide +kernel)
    (case c27 => first | k_is | rfl | decide +kernel)
    (case k27 => first | k_is | rfl | decide +kernel)
    (case a28 => first | k_is | rfl | decide +kernel)
    (case l28 => first | k_is | rfl | decide +kernel)
    (case c28 => first | k_is | rfl | decide +kernel)
    (case k28 => first | k_is | rfl | decide +kernel)
    (case a29 => first | k_is | rfl | decide +kernel)
    (case l29 => first | k_is | rfl | decide +kernel)
    (case c29 => first | k_is | rfl | decide +kernel)
    (case k29 => first | k_is | rfl | decide +kernel)
    (case a30 => first | k_is | rfl | decide +kernel)
    (case l30 => first | k_is | rfl | decide +kernel)
    (case c30 => first | k_is | rfl | decide +kernel)
    (case k30 => first | k_is | rfl | decide +kernel)
    (case a31 => first | k_is | rfl | decide +kernel)
    (case l31 => first | k_is | rfl | decide +kernel)
    (case c31 => first | k_is | rfl | decide +kernel)
    (case k31 => first | k_is | rfl | decide +kernel)
    (case a32 => first | k_is | rfl | decide +kernel)
    (case l32 => first | k_is | rfl | decide +kernel)
    (case c32 => first | k_is | rfl | decide +kernel)
    (case k32 => first | k_is | rfl | decide +kernel)
    (case a33 => first | k_is | rfl | decide +kernel)
    (case l33 => first | k_is | rfl | decide +kernel)
    (case c33 => first | k_is | rfl | decide +kernel)
    (case k33 => first | k_is | rfl | decide +kernel)
    (case a34 => first | k_is | rfl | decide +kernel)
    (case l34 => first | k_is | rfl | decide +kernel)
    (case c34 => first | k_is | rfl | decide +kernel)
    (case k34 => first | k_is | rfl | decide +kernel)
    (case a35 => first | k_is | rfl | decide +kernel)
    (case l35 => first | k_is | rfl | decide +kernel)
    (case c35 => first | k_is | rfl | decide +kernel)
    (case k35 => first | k_is | rfl | decide +kernel)
    (case a36 => first | k_is | rfl | decide +kernel)
    (case l36 => first | k_is | rfl | decide +kernel)
    (case c36 => first | k_is | rfl | decide +kernel)
    (case k36 => first | k_is | rfl | decide +kernel)
    (case a37 => first | k_is | rfl | decide +kernel)
    (case l37 => first | k_is | rfl | decide +kernel)
    (case c37 => first | k_is | rfl | decide +kernel)
    (case k37 => first | k_is | rfl | decide +kernel)
    (case z_abs => first | k_is | rfl | decide +kernel)
    (case z_enumerate => first | k_is | rfl | decide +kernel)
    (case z_int => first | k_is | rfl | decide +kernel)
    (case z_isinstance => first | k_is | rfl | decide +kernel)
    (case z_len => first | k_is | rfl | decide +kernel)
    (case z_list => first | k_is | rfl | decide +kernel)
    (case z_max => first | k_is | rfl | decide +kernel)
    (case z_min => first | k_is | rfl | decide +kernel)
    (case z_range => first | k_is | rfl | decide +kernel)
    (case z_repr => first | k_is | rfl | decide +kernel)
    (case z_sum => first | k_is | rfl | decide +kernel)
    (case z_tuple => first | k_is | rfl | decide +kernel)
    (case y_FAR => first | k_is | rfl | decide +kernel)
    (case y_MOST => first | k_is | rfl | decide +kernel)
    (case yd_STEPS => first | k_is | rfl | decide +kernel)
    (case kd_STEPS => first | k_is | rfl | decide +kernel)
    (case ac0 => first | k_is | rfl | decide +kernel)
    (case hg0 => first | k_is | rfl | decide +kernel)
    (case hk0 => first | k_is | rfl | decide +kernel)
    (case hs0 => first | k_is | rfl | decide +kernel)
    (case hd0 => first | k_is | rfl | decide +kernel)
    (case ha0 => first | k_is | rfl | decide +kernel)
    (case hm0 => first | k_is | rfl | decide +kernel)
    (case ty0 => first | k_is | rfl | decide +kernel)
    (case nst0 => first | k_is | rfl | decide +kernel)
    (case ac1 => first | k_is | rfl | decide +kernel)
    (case hg1 => first | k_is | rfl | decide +kernel)
    (case hk1 => first | k_is | rfl | decide +kernel)
    (case hs1 => first | k_is | rfl | decide +kernel)
    (case hd1 => first | k_is | rfl | decide +kernel)
    (case ha1 => first | k_is | rfl | decide +kernel)
    (case hm1 => first | k_is | rfl | decide +kernel)
    (case ty1 => first | k_is | rfl | decide +kernel)
    (case nst1 => first | k_is | rfl | decide +kernel)
    (case ac2 => first | k_is | rfl | decide +kernel)
    (case hg2 => first | k_is | rfl | decide +kernel)
    (case hk2 => first | k_is | rfl | decide +kernel)
    (case hs2 => first | k_is | rfl | decide +kernel)
    (case hd2 => first | k_is | rfl | decide +kernel)
    (case ha2 => first | k_is | rfl | decide +kernel)
    (case hm2 => first | k_is | rfl | decide +kernel)
    (case ty2 => first | k_is | rfl | decide +kernel)
    (case nst2 => first | k_is | rfl | decide +kernel)
    (case ac3 => first | k_is | rfl | decide +kernel)
    (case hg3 => first | k_is | rfl | decide +kernel)
    (case hk3 => first | k_is | rfl | decide +kernel)
    (case hs3 => first | k_is | rfl | decide +kernel)
    (case hd3 => first | k_is | rfl | decide +kernel)
    (case ha3 => first | k_is | rfl | decide +kernel)
    (case hm3 => first | k_is | rfl | decide +kernel)
    (case ty3 => first | k_is | rfl | decide +kernel)
    (case nst3 => first | k_is | rfl | decide +kernel)
    (case ac4 => first | k_is | rfl | decide +kernel)
    (case hg4 => first | k_is | rfl | decide +kernel)
    (case hk4 => first | k_is | rfl | decide +kernel)
    (case hs4 => first | k_is | rfl | decide +kernel)
    (case hd4 => first | k_is | rfl | decide +kernel)
    (case ha4 => first | k_is | rfl | decide +kernel)
    (case hm4 => first | k_is | rfl | decide +kernel)
    (case ty4 => first | k_is | rfl | decide +kernel)
    (case nst4 => first | k_is | rfl | decide +kernel)
    (case hn => first | k_is | rfl | decide +kernel)
    (case ht => first | k_is | rfl | decide +kernel)
    (case im_comb => first | k_is | rfl | decide +kernel)
    (case om_Lane => first | k_is | rfl | decide +kernel)
    (case oq_Lane => first | k_is | rfl | decide +kernel)
    (case og_Lane => first | k_is | rfl | decide +kernel)
    (case od_Lane => first | k_is | rfl | decide +kernel)
    (case oo_Lane => first | k_is | rfl | decide +kernel)
    (case os_Lane => first | k_is | rfl | decide +kernel)
    (case oh_Lane => first | k_is | rfl | decide +kernel)
    (case ow_Lane => first | k_is | rfl | decide +kernel)
    (case on_Lane_stretches => first | k_is | rfl | decide +kernel)
    (case on_Lane_height => first | k_is | rfl | decide +kernel)
    (case p0_0 => first | k_is | rfl | decide +kernel)
    (case p0_1 => first | k_is | rfl | decide +kernel)
    (case p0_2 => first | k_is | rfl | decide +kernel)
    (case p0_3 => first | k_is | rfl | decide +kernel)
    (case p0_4 => first | k_is | rfl | decide +kernel)
    (case p1_0 => first | k_is | rfl | decide +kernel)
    (case p1_1 => first | k_is | rfl | decide +kernel)
    (case p1_2 => first | k_is | rfl | decide +kernel)
    (case p1_3 => first | k_is | rfl | decide +kernel)
    (case p1_4 => first | k_is | rfl | decide +kernel)
    (case p2_0 => first | k_is | rfl | decide +kernel)
    (case p2_1 => first | k_is | rfl | decide +kernel)
    (case p2_2 => first | k_is | rfl | decide +kernel)
    (case p2_3 => first | k_is | rfl | decide +kernel)
    (case p2_4 => first | k_is | rfl | decide +kernel)
    (case p3_0 => first | k_is | rfl | decide +kernel)
    (case p3_1 => first | k_is | rfl | decide +kernel)
    (case p3_2 => first | k_is | rfl | decide +kernel)
    (case p3_3 => first | k_is | rfl | decide +kernel)
    (case p3_4 => first | k_is | rfl | decide +kernel)
    (case p4_0 => first | k_is | rfl | decide +kernel)
    (case p4_1 => first | k_is | rfl | decide +kernel)
    (case p4_2 => first | k_is | rfl | decide +kernel)
    (case p4_3 => first | k_is | rfl | decide +kernel)
    (case p4_4 => first | k_is | rfl | decide +kernel)
    (case no3_at => first | k_is | rfl | decide +kernel)
    (case no1_number => first | k_is | rfl | decide +kernel)
    (case no2_count => first | k_is | rfl | decide +kernel)
    (case no4_at => first | k_is | rfl | decide +kernel)
    (case xl1 => first | k_is | rfl | decide +kernel)
    (case xr1 => first | k_is | rfl | decide +kernel)
    (case sa1 => first | k_is | rfl | decide +kernel)
    (case kc1 => first | k_is | rfl | decide +kernel)
    (case ic1 => first | k_is | rfl | decide +kernel)
    (case xl2 => first | k_is | rfl | decide +kernel)
    (case xr2 => first | k_is | rfl | decide +kernel)
    (case sa2 => first | k_is | rfl | decide +kernel)
    (case kc2 => first | k_is | rfl | decide +kernel)
    (case ic2 => first | k_is | rfl | decide +kernel)
    (case xl3 => first | k_is | rfl | decide +kernel)
    (case xr3 => first | k_is | rfl | decide +kernel)
    (case sa3 => first | k_is | rfl | decide +kernel)
    (case kc3 => first | k_is | rfl | decide +kernel)
    (case ic3 => first | k_is | rfl | decide +kernel)
    (case xl4 => first | k_is | rfl | decide +kernel)
    (case xr4 => first | k_is | rfl | decide +kernel)
    (case sa4 => first | k_is | rfl | decide +kernel)
    (case kc4 => first | k_is | rfl | decide +kernel)
    (case ic4 => first | k_is | rfl | decide +kernel)
    (case li0 => first | k_is | rfl | decide +kernel)
    (case ci0 => first | k_is | rfl | decide +kernel)
    (case ki0 => first | k_is | rfl | decide +kernel)
    (case iti0 => first | k_is | rfl | decide +kernel)
    (case li1 => first | k_is | rfl | decide +kernel)
    (case ci1 => first | k_is | rfl | decide +kernel)
    (case ki1 => first | k_is | rfl | decide +kernel)
    (case iti1 => first | k_is | rfl | decide +kernel)
    (case li2 => first | k_is | rfl | decide +kernel)
    (case ci2 => first | k_is | rfl | decide +kernel)
    (case ki2 => first | k_is | rfl | decide +kernel)
    (case iti2 => first | k_is | rfl | decide +kernel)
    (case li3 => first | k_is | rfl | decide +kernel)
    (case ci3 => first | k_is | rfl | decide +kernel)
    (case ki3 => first | k_is | rfl | decide +kernel)
    (case iti3 => first | k_is | rfl | decide +kernel)
  case math => exact K41.math
