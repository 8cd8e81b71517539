import PyProof.Rows.All
import Wide.All
import OpenK.AllK
import Wide.FinOn
import HandS.ForMost
import HandS.IsInst
import HandS.Deep
import HandS.TupAny
import HandS.TupMul
import HandS.SortInts
import HandS.Flow
import HandS.TupLe
import HandS.TryOnly
import HandS.SetFor
import KE.GoesEnum
import KE.GoesMore
import HandS.Defaults
import HandS.Head0
import HandS.Head1
import HandS.Head2
import HandS.HeadEnd
import HandS.HeadHook1
import HandS.HeadHook2
import HandS.HeadHook3
import HandS.HeadHook4
import Lean
import PySem.Challenge.RW_linesure_k25_whole_times_add_up
/-! text Mini1 -/
set_option Elab.async false
set_option linter.all false
set_option maxRecDepth 100000
set_option maxHeartbeats 4000000
namespace MP
open PySem PySem.Spec PyProof.Rows L2

/-! ### plain data with places for what can change -/
inductive D where
  | non | bl (b : Bool) | int (i : Int) | str (x : Str) | tup (xs : List D) | loc (n : Nat) | gl (a : Addr) | ty (n : String)

/-- what stands at a place -/
inductive AO where
  | lst (xs : List D)
  | frz (ns : List Int)
abbrev Hs := List AO
abbrev Rho := List (Option D)
def AO.isF : AO → Bool
  | .frz _ => true
  | _ => false

/-- a tuple of the written part -/
def KTs (K : PySem.W.Frag) (a : Addr) (xs : List V) : Prop :=
  ∃ (o : Obj) (its : Array Value) (n : Nat), K.lookup a = some o ∧ o.cls = .type "tuple" ∧ o.data = .seq its n ∧ its.size ≤ sizeLine ∧ Vals xs its.toList
/-- a tuple that stays -/
def TupAt (K : PySem.W.Frag) (H : Hp) (a : Addr) (xs : List V) : Prop := H a = some (.tup xs) ∨ KTs K a xs
theorem TupAt.sq {K : PySem.W.Frag} {H : Hp} {a : Addr} {xs : List V} (t : TupAt K H a xs) : SqT K H a xs := by
  rcases t with t | t
  · exact .inl (.inl t)
  · exact .inr t
theorem TupAt.of {K : PySem.W.Frag} {H : Hp} {a : Addr} {xs : List V} (h : H a = some (.tup xs)) : TupAt K H a xs := .inl h
mutual
inductive RV (K : PySem.W.Frag) (H : Hp) (μ : List Addr) : D → V → Prop
  | non : RV K H μ .non .non
  | bl (b : Bool) : RV K H μ (.bl b) (.bl b)
  | int (i : Int) : RV K H μ (.int i) (.int i)
  | str (x : Str) : RV K H μ (.str x) (.str x)
  | tup {ds : List D} {a : Addr} {vs : List V} : TupAt K H a vs → RVs K H μ ds vs → RV K H μ (.tup ds) (.ref a)
  | loc {n : Nat} {a : Addr} : μ[n]? = some a → RV K H μ (.loc n) (.ref a)
  | gl (a : Addr) : RV K H μ (.gl a) (.ref a)
  | ty (n : String) : RV K H μ (.ty n) (.ty n)
inductive RVs (K : PySem.W.Frag) (H : Hp) (μ : List Addr) : List D → List V → Prop
  | nil : RVs K H μ [] []
  | cons {d : D} {v : V} {ds : List D} {vs : List V} : RV K H μ d v → RVs K H μ ds vs → RVs K H μ (d :: ds) (v :: vs)
end

/-- tuples stay tuples; places stay -/
structure Stp (K : PySem.W.Frag) (μ : List Addr) (H : Hp) (μ' : List Addr) (H' : Hp) : Prop where
  ext : ∀ (n : Nat) (a : Addr), μ[n]? = some a → μ'[n]? = some a
  kp : ∀ a xs, TupAt K H a xs → TupAt K H' a xs
theorem Stp.refl (K : PySem.W.Frag) (μ : List Addr) (H : Hp) : Stp K μ H μ H := ⟨fun _ _ h => h, fun _ _ h => h⟩
theorem Stp.trans {K : PySem.W.Frag} {μ μ1 μ2 : List Addr} {H H1 H2 : Hp} (a : Stp K μ H μ1 H1) (b : Stp K μ1 H1 μ2 H2) : Stp K μ H μ2 H2 :=
  ⟨fun n x h => b.ext n x (a.ext n x h), fun x xs h => b.kp x xs (a.kp x xs h)⟩
section
variable {K : PySem.W.Frag} {μ μ' : List Addr} {H H' : Hp}
mutual
theorem RV.mono (S : Stp K μ H μ' H') : ∀ {d : D} {v : V}, RV K H μ d v → RV K H' μ' d v
  | _, _, .non => .non
  | _, _, .bl b => .bl b
  | _, _, .int i => .int i
  | _, _, .str x => .str x
  | _, _, .tup h r => .tup (S.kp _ _ h) (RVs.mono S r)
  | _, _, .loc h => .loc (S.ext _ _ h)
  | _, _, .gl a => .gl a
  | _, _, .ty n => .ty n
theorem RVs.mono (S : Stp K μ H μ' H') : ∀ {ds : List D} {vs : List V}, RVs K H μ ds vs → RVs K H' μ' ds vs
  | _, _, .nil => .nil
  | _, _, .cons h r => .cons (RV.mono S h) (RVs.mono S r)
end
theorem RVs.length : ∀ {ds : List D} {vs : List V}, RVs K H μ ds vs → ds.length = vs.length
  | _, _, .nil => rfl
  | _, _, .cons _ r => congrArg (· + 1) (RVs.length r)
theorem RVs.get : ∀ {ds : List D} {vs : List V} {i : Nat} {d : D}, RVs K H μ ds vs → ds[i]? = some d → ∃ v, vs[i]? = some v ∧ RV K H μ d v
  | _, _, _, _, .nil, e => by simp at e
  | _, _, 0, _, .cons r _, e => by simp at e; subst e; exact ⟨_, rfl, r⟩
  | _, _, i + 1, d, .cons _ t, e => by
    obtain ⟨u, h1, h2⟩ := RVs.get (i := i) (d := d) t (by simpa using e)
    exact ⟨u, by simpa using h1, h2⟩
theorem RVs.gets : ∀ {ds : List D} {vs : List V} {i : Nat} {v : V}, RVs K H μ ds vs → vs[i]? = some v → ∃ d, ds[i]? = some d ∧ RV K H μ d v
  | _, _, _, _, .nil, e => by simp at e
  | _, _, 0, _, .cons r _, e => by simp at e; subst e; exact ⟨_, rfl, r⟩
  | _, _, i + 1, v, .cons _ t, e => by
    obtain ⟨u, h1, h2⟩ := RVs.gets (i := i) (v := v) t (by simpa using e)
    exact ⟨u, by simpa using h1, h2⟩
theorem RVs.append : ∀ {ds es : List D} {vs us : List V}, RVs K H μ ds vs → RVs K H μ es us → RVs K H μ (ds ++ es) (vs ++ us)
  | _, _, _, _, .nil, s => s
  | _, _, _, _, .cons r t, s => .cons r (RVs.append t s)
theorem RVs.take : ∀ {ds : List D} {vs : List V} (n : Nat), RVs K H μ ds vs → RVs K H μ (ds.take n) (vs.take n)
  | _, _, 0, _ => by simpa using RVs.nil
  | _, _, _ + 1, .nil => .nil
  | _, _, n + 1, .cons r t => .cons r (RVs.take n t)
theorem RVs.drop : ∀ {ds : List D} {vs : List V} (n : Nat), RVs K H μ ds vs → RVs K H μ (ds.drop n) (vs.drop n)
  | _, _, 0, r => r
  | _, _, _ + 1, .nil => .nil
  | _, _, n + 1, .cons _ t => RVs.drop n t
theorem RVs.set {d : D} {v : V} (r : RV K H μ d v) : ∀ {ds : List D} {vs : List V} (i : Nat), RVs K H μ ds vs → RVs K H μ (ds.set i d) (vs.set i v)
  | _, _, _, .nil => .nil
  | _, _, 0, .cons _ t => .cons r t
  | _, _, i + 1, .cons q t => .cons q (RVs.set r i t)
theorem RVs.eraseIdx : ∀ {ds : List D} {vs : List V} (i : Nat), RVs K H μ ds vs → RVs K H μ (ds.eraseIdx i) (vs.eraseIdx i)
  | _, _, _, .nil => .nil
  | _, _, 0, .cons _ t => t
  | _, _, i + 1, .cons q t => .cons q (RVs.eraseIdx i t)
theorem RVs.dropLast {ds : List D} {vs : List V} (r : RVs K H μ ds vs) : RVs K H μ ds.dropLast vs.dropLast := by
  rw [List.dropLast_eq_take, List.dropLast_eq_take, r.length]
  exact r.take _
theorem RVs.reverse : ∀ {ds : List D} {vs : List V}, RVs K H μ ds vs → RVs K H μ ds.reverse vs.reverse
  | _, _, .nil => .nil
  | _, _, .cons q t => by
    rw [List.reverse_cons, List.reverse_cons]
    exact (RVs.reverse t).append (.cons q .nil)
theorem RVs.nil_iff {ds : List D} {vs : List V} (r : RVs K H μ ds vs) : vs = [] ↔ ds = [] := by
  cases r with
  | nil => exact ⟨fun _ => rfl, fun _ => rfl⟩
  | cons _ _ => exact ⟨(fun e => nomatch e), (fun e => nomatch e)⟩
theorem RVs.rep {ds : List D} {vs : List V} (r : RVs K H μ ds vs) : ∀ k : Nat, RVs K H μ (List.replicate k ds).flatten (List.replicate k vs).flatten
  | 0 => .nil
  | k + 1 => by
    rw [List.replicate_succ, List.replicate_succ, List.flatten_cons, List.flatten_cons]
    exact r.append (RVs.rep r k)
theorem RVs.ints : ∀ ns : List Int, RVs K H μ (ns.map D.int) (ns.map V.int)
  | [] => .nil
  | n :: r => .cons (.int n) (RVs.ints r)
theorem RVs.of_ints : ∀ {ns : List Int} {vs : List V}, RVs K H μ (ns.map D.int) vs → vs = ns.map V.int
  | [], _, .nil => rfl
  | n :: r, _, .cons (.int _) t => by rw [RVs.of_ints t]; rfl
theorem RVs.of_strs : ∀ {ns : List Str} {vs : List V}, RVs K H μ (ns.map D.str) vs → vs = ns.map V.str
  | [], _, .nil => rfl
  | n :: r, _, .cons (.str _) t => by rw [RVs.of_strs t]; rfl
theorem RVs.strs : ∀ ns : List Str, RVs K H μ (ns.map D.str) (ns.map V.str)
  | [] => .nil
  | n :: r => .cons (.str n) (RVs.strs r)
theorem RVs.of_bls : ∀ {ns : List Bool} {vs : List V}, RVs K H μ (ns.map D.bl) vs → vs = ns.map V.bl
  | [], _, .nil => rfl
  | n :: r, _, .cons (.bl _) t => by rw [RVs.of_bls t]; rfl
end

/-! ### the heap's relation -/
/-- a list of the written part -/
def KLs (K : PySem.W.Frag) (a : Addr) (xs : List V) : Prop :=
  ∃ (o : Obj) (its : Array Value) (n : Nat), K.lookup a = some o ∧ o.cls = .type "list" ∧ o.dict = none ∧ o.data = .seq its n ∧ its.size ≤ sizeLine ∧ Vals xs its.toList
def RO (K : PySem.W.Frag) (H : Hp) (μ : List Addr) (a : Addr) : AO → Prop
  | .lst ds => ∃ vs, H a = some (.lst vs) ∧ RVs K H μ ds vs
  | .frz ns => (∃ o, H a = some (.frz o (.lst (ns.map V.int)))) ∨ KLs K a (ns.map V.int)

structure Rel (K : PySem.W.Frag) (μ : List Addr) (h : Hs) (H : Hp) : Prop where
  len : μ.length = h.length
  inj : ∀ (n m : Nat) (a : Addr) (o o' : AO), μ[n]? = some a → μ[m]? = some a → h[n]? = some o → h[m]? = some o' → o.isF = false → o'.isF = false → n = m
  obj : ∀ (n : Nat) (a : Addr) (o : AO), μ[n]? = some a → h[n]? = some o → RO K H μ a o

section
variable {K : PySem.W.Frag} {μ μ' : List Addr} {h : Hs} {H H' : Hp} {n : Nat} {a : Addr} {o o' : AO} {u u' : HO}
theorem RO.mutb (r : RO K H μ a o) (hf : o.isF = false) : ∃ u, H a = some u ∧ Mut (some u) := by
  cases o with
  | lst xs => obtain ⟨vs, e, _⟩ := r; exact ⟨_, e, trivial⟩
  | frz ns => cases hf
theorem TupAt.upd_mut {b : Addr} {xs : List V} (e : H a = some u) (m : Mut (some u)) (t : TupAt K H b xs) : TupAt K (L2.upd H a u') b xs := by
  rcases t with t | t
  · refine .inl ?_
    rw [upd_ne]
    · exact t
    · rintro rfl
      rw [e] at t; cases t; exact m
  · exact .inr t
theorem TupAt.upd_new {b : Addr} {xs : List V} (e : H a = none) (t : TupAt K H b xs) : TupAt K (L2.upd H a u') b xs := by
  rcases t with t | t
  · refine .inl ?_
    rw [upd_ne (ne_of_none t e)]
    exact t
  · exact .inr t
/-- other objects stay as they are told -/
theorem RO.stay {b : Addr} {q : AO} (S : Stp K μ H μ' H') (r : RO K H μ b q) (hb : H' b = H b) : RO K H' μ' b q := by
  cases q with
  | lst xs => obtain ⟨vs, e, rr⟩ := r; exact ⟨vs, by rw [hb]; exact e, rr.mono S⟩
  | frz ns =>
    rcases r with ⟨o, t⟩ | t
    · exact .inl ⟨o, by rw [hb]; exact t⟩
    · exact .inr t
theorem Stp.upd (e : H a = some u) (m : Mut (some u)) : Stp K μ H μ (L2.upd H a u') := ⟨fun _ _ q => q, fun _ _ t => TupAt.upd_mut e m t⟩
theorem Stp.new (e : H a = none) : Stp K μ H (μ ++ [a]) (L2.upd H a u') :=
  ⟨fun n x q => by
    have hn : n < μ.length := (List.getElem?_eq_some_iff.mp q).1
    rw [List.getElem?_append_left hn]
    exact q, fun _ _ t => TupAt.upd_new e t⟩
/-- the heap grows by a thing that is not told (a tuple) -/
theorem Stp.newT (e : H a = none) : Stp K μ H μ (L2.upd H a u') := ⟨fun _ _ q => q, fun _ _ t => TupAt.upd_new e t⟩
theorem RO.new {b : Addr} {q : AO} (S : Stp K μ H μ' (L2.upd H a u')) (r : RO K H μ b q) (e : H a = none) : RO K (L2.upd H a u') μ' b q := by
  cases q with
  | lst xs =>
    obtain ⟨vs, eu, rr⟩ := r
    exact ⟨vs, by rw [upd_ne (ne_of_none eu e)]; exact eu, rr.mono S⟩
  | frz ns =>
    rcases r with ⟨o1, t⟩ | t
    · exact .inl ⟨o1, by rw [upd_ne (ne_of_none t e)]; exact t⟩
    · exact .inr t
/-- a place is written -/
theorem Rel.write (R : Rel K μ h H) (hn : h[n]? = some o) (hf : o.isF = false) (ha : μ[n]? = some a) (hf' : o'.isF = false)
    (new : ∀ u, H a = some u → Mut (some u) → RO K (L2.upd H a u') μ a o') : Rel K μ (h.set n o') (L2.upd H a u') ∧ Stp K μ H μ (L2.upd H a u') := by
  obtain ⟨u, e, m⟩ := (R.obj n a o ha hn).mutb hf
  have S : Stp K μ H μ (L2.upd H a u') := Stp.upd e m
  have hlt : n < h.length := (List.getElem?_eq_some_iff.mp hn).1
  have sel : ∀ (k : Nat) (q : AO), (h.set n o')[k]? = some q → (k = n ∧ q = o') ∨ (k ≠ n ∧ h[k]? = some q) := fun k q hq => by
    by_cases hk : k = n
    · subst hk
      rw [List.getElem?_set_self hlt] at hq
      exact .inl ⟨rfl, (Option.some.inj hq).symm⟩
    · rw [List.getElem?_set_ne (Ne.symm hk)] at hq
      exact .inr ⟨hk, hq⟩
  refine ⟨⟨by rw [List.length_set]; exact R.len, fun i j x q q' hi hj hqi hqj fi fj => ?_, fun k b q hb hq => ?_⟩, S⟩
  · rcases sel i q hqi with ⟨ei, eq1⟩ | ⟨ni, hqi'⟩ <;> rcases sel j q' hqj with ⟨ej, eq2⟩ | ⟨nj, hqj'⟩
    · rw [ei, ej]
    · rw [ei] at hi ⊢
      exact R.inj _ _ _ _ _ hi hj hn hqj' hf fj
    · rw [ej] at hj ⊢
      exact R.inj _ _ _ _ _ hi hj hqi' hn fi hf
    · exact R.inj _ _ _ _ _ hi hj hqi' hqj' fi fj
  · rcases sel k q hq with ⟨rfl, rfl⟩ | ⟨nk, hq⟩
    · rw [ha] at hb; cases hb
      exact new u e m
    · have r := R.obj k b q hb hq
      cases hq' : q.isF with
      | false => exact r.stay S (upd_ne fun z => nk (R.inj _ _ _ _ _ (z ▸ hb) ha hq hn hq' hf))
      | true =>
        cases q with
        | lst xs => cases hq'
        | frz ns =>
          rcases r with ⟨o1, t⟩ | t
          · refine .inl ⟨o1, ?_⟩
            rw [upd_ne]
            · exact t
            · rintro rfl
              rw [e] at t; cases t
              exact m
          · exact .inr t
/-- a new place -/
theorem Rel.alloc (R : Rel K μ h H) (e : H a = none) (new : RO K (L2.upd H a u') (μ ++ [a]) a o') : Rel K (μ ++ [a]) (h ++ [o']) (L2.upd H a u') ∧ Stp K μ H (μ ++ [a]) (L2.upd H a u') := by
  have S : Stp K μ H (μ ++ [a]) (L2.upd H a u') := Stp.new e
  have sel : ∀ (k : Nat) (b : Addr) (q : AO), (μ ++ [a])[k]? = some b → (h ++ [o'])[k]? = some q → (k = h.length ∧ b = a ∧ q = o') ∨ (μ[k]? = some b ∧ h[k]? = some q) := fun k b q hb hq => by
    by_cases hk : k < h.length
    · rw [List.getElem?_append_left hk] at hq
      rw [List.getElem?_append_left (by rw [R.len]; exact hk)] at hb
      exact .inr ⟨hb, hq⟩
    · have hk2 : k < (h ++ [o']).length := (List.getElem?_eq_some_iff.mp hq).1
      rw [List.length_append, List.length_singleton] at hk2
      have hk3 : k = h.length := by omega
      subst hk3
      rw [List.getElem?_append_right (Nat.le_refl _), Nat.sub_self] at hq
      rw [List.getElem?_append_right (by rw [R.len]; exact Nat.le_refl _), R.len, Nat.sub_self] at hb
      exact .inl ⟨rfl, (Option.some.inj hb).symm, (Option.some.inj hq).symm⟩
  refine ⟨⟨by simp [R.len], fun i j x q q' hi hj hqi hqj fi fj => ?_, fun k b q hb hq => ?_⟩, S⟩
  · rcases sel i x q hi hqi with ⟨ei, ex, _⟩ | ⟨hi', hqi'⟩ <;> rcases sel j x q' hj hqj with ⟨ej, hx, _⟩ | ⟨hj', hqj'⟩
    · rw [ei, ej]
    · obtain ⟨u, eu, _⟩ := (R.obj j x q' hj' hqj').mutb fj
      rw [ex, e] at eu; cases eu
    · obtain ⟨u, eu, _⟩ := (R.obj i x q hi' hqi').mutb fi
      rw [hx, e] at eu; cases eu
    · exact R.inj _ _ _ _ _ hi' hj' hqi' hqj' fi fj
  · rcases sel k b q hb hq with ⟨_, rfl, rfl⟩ | ⟨hb', hq'⟩
    · exact new
    · exact RO.new S (R.obj k b q hb' hq') e
theorem Rel.allocT (R : Rel K μ h H) (e : H a = none) : Rel K μ h (L2.upd H a u') ∧ Stp K μ H μ (L2.upd H a u') :=
  have S : Stp K μ H μ (L2.upd H a u') := Stp.newT e
  ⟨⟨R.len, R.inj, fun n b o hb ho => RO.new S (R.obj n b o hb ho) e⟩, S⟩
end
end MP

/-! text Mini2 -/
set_option Elab.async false
set_option linter.all false
set_option maxRecDepth 100000
set_option maxHeartbeats 4000000
namespace MP
open PySem PySem.Spec PyProof.Rows L2

/-! ### operations on values -/
abbrev O1 := D → Hs → Option (D × Hs)
abbrev O2 := D → D → Hs → Option (D × Hs)
abbrev ON := List D → Hs → Option (D × Hs)

/-- what an operation promises to who asks over the abstract heap -/
def After (K : PySem.W.Frag) (μ : List Addr) (H : Hp) (d : D) (h' : Hs) (Q : VK) : Prop :=
  ∀ (μ' : List Addr) (H' : Hp) (v : V), Rel K μ' h' H' → Stp K μ H μ' H' → RV K H' μ' d v → Q v H'
def g1 (K : PySem.W.Frag) (g : O1) : V → Hp → VK → Prop := fun vx H Q => ∃ μ h x d h', Rel K μ h H ∧ RV K H μ x vx ∧ g x h = some (d, h') ∧ After K μ H d h' Q
def g2 (K : PySem.W.Frag) (g : O2) : R2 := fun vx vy H Q => ∃ μ h x y d h', Rel K μ h H ∧ RV K H μ x vx ∧ RV K H μ y vy ∧ g x y h = some (d, h') ∧ After K μ H d h' Q
def gN (K : PySem.W.Frag) (g : ON) : List V → Hp → VK → Prop := fun vs H Q => ∃ μ h ds d h', Rel K μ h H ∧ RVs K H μ ds vs ∧ g ds h = some (d, h') ∧ After K μ H d h' Q

section
variable {K : PySem.W.Frag} {μ : List Addr} {h : Hs} {H : Hp} {d : D} {h' : Hs} {Q : VK}
/-- a value, nothing made -/
theorem After.val (k : After K μ H d h Q) (R : Rel K μ h H) {v : V} (r : RV K H μ d v) : Q v H := k μ H v R (Stp.refl K μ H) r
/-- a new tuple -/
theorem After.newT {ds : List D} {vs : List V} (k : After K μ H (.tup ds) h Q) (R : Rel K μ h H) (r : RVs K H μ ds vs) : ∀ p, H p = none → Q (.ref p) (upd H p (.tup vs)) := fun p hp => by
  obtain ⟨R', S⟩ := R.allocT (u' := .tup vs) hp
  exact k μ _ _ R' S (.tup (TupAt.of upd_same) (r.mono S))
/-- a new list -/
theorem After.newL {ds : List D} {vs : List V} (k : After K μ H (.loc h.length) (h ++ [.lst ds]) Q) (R : Rel K μ h H) (r : RVs K H μ ds vs) : ∀ p, H p = none → Q (.ref p) (upd H p (.lst vs)) := fun p hp => by
  obtain ⟨R', S⟩ := R.alloc (u' := .lst vs) (o' := .lst ds) hp ⟨vs, upd_same, r.mono (Stp.new hp)⟩
  refine k _ _ _ R' S (.loc ?_)
  rw [List.getElem?_append_right (by rw [R.len]; exact Nat.le_refl _), R.len, Nat.sub_self]
  rfl
/-- a list is written -/
theorem After.wr {n : Nat} {a : Addr} {xs ds : List D} {vs : List V} (k : After K μ H d (h.set n (.lst ds)) Q) (R : Rel K μ h H) (hn : h[n]? = some (.lst xs)) (ha : μ[n]? = some a) (r : RVs K H μ ds vs) {v : V} (rv : RV K H μ d v) :
    Q v (upd H a (.lst vs)) := by
  obtain ⟨R', S⟩ := R.write (u' := .lst vs) (o' := .lst ds) hn rfl ha rfl fun u e m => ⟨vs, upd_same, r.mono (Stp.upd e m)⟩
  exact k _ _ _ R' S (rv.mono S)
theorem Rel.lst {n : Nat} {a : Addr} {xs : List D} (R : Rel K μ h H) (hn : h[n]? = some (.lst xs)) (ha : μ[n]? = some a) : ∃ vs, H a = some (.lst vs) ∧ RVs K H μ xs vs := R.obj n a _ ha hn
theorem Rel.frz {n : Nat} {a : Addr} {ns : List Int} (R : Rel K μ h H) (hn : h[n]? = some (.frz ns)) (ha : μ[n]? = some a) : SqL K H a (ns.map V.int) := by
  rcases R.obj n a _ ha hn with ⟨o, e⟩ | e
  · exact .inl (.inr ⟨o, e⟩)
  · exact .inr e
end

/-- the items of a list, whether it may be written or not -/
def itemsAt (h : Hs) (n : Nat) : Option (List D) := match h[n]? with
  | some (.lst xs) => some xs
  | some (.frz ns) => some (ns.map D.int)
  | none => none
theorem itemsAt_ok {K : PySem.W.Frag} {μ : List Addr} {h : Hs} {H : Hp} {n : Nat} {a : Addr} {xs : List D} (R : Rel K μ h H) (hn : itemsAt h n = some xs) (ha : μ[n]? = some a) : ∃ vs, SqL K H a vs ∧ RVs K H μ xs vs := by
  unfold itemsAt at hn
  split at hn
  · rename_i ys e
    cases hn
    obtain ⟨vs, e1, r⟩ := R.lst e ha
    exact ⟨vs, SqL.of e1, r⟩
  · rename_i ns e
    cases hn
    exact ⟨_, R.frz e ha, RVs.ints ns⟩
  · cases hn
theorem Rel.at {K : PySem.W.Frag} {μ : List Addr} {h : Hs} {H : Hp} {n : Nat} {o : AO} (R : Rel K μ h H) (hn : h[n]? = some o) : ∃ a, μ[n]? = some a := by
  have hlt : n < μ.length := by rw [R.len]; exact (List.getElem?_eq_some_iff.mp hn).1
  exact ⟨μ[n], List.getElem?_eq_getElem hlt⟩
theorem RV.loc_at {K : PySem.W.Frag} {H : Hp} {μ : List Addr} {n : Nat} {v : V} (r : RV K H μ (.loc n) v) : ∃ a, v = .ref a ∧ μ[n]? = some a := by
  cases r with
  | loc e => exact ⟨_, rfl, e⟩

/-! ### arithmetic -/
def addD : O2 := fun x y h => match x, y with
  | .int i, .int j => some (.int (i + j), h)
  | .int i, .bl k => some (.int (i + b2i k), h)
  | .str a, .str b => if a.length + b.length ≤ sizeLine then some (.str (a ++ b), h) else none
  | .tup xs, .tup ys => if xs.length + ys.length ≤ sizeLine then some (.tup (xs ++ ys), h) else none
  | .loc l, .loc m => match h[l]?, h[m]? with
    | some (.lst xs), some (.lst ys) => if xs.length + ys.length ≤ sizeLine then some (.loc h.length, h ++ [.lst (xs ++ ys)]) else none
    | _, _ => none
  | _, _ => none
def subD : O2 := fun x y h => match x, y with
  | .int i, .int j => some (.int (i - j), h)
  | _, _ => none
def smul (i j : Int) : Bool := (decide (-(2 ^ 64) < i) && decide (i < 2 ^ 64)) || (decide (-(2 ^ 64) < j) && decide (j < 2 ^ 64))
def mulD : O2 := fun x y h => match x, y with
  | .int i, .int j => if smul i j = true then some (.int (i * j), h) else none
  | .str a, .int j => if a.length ≤ 1000 ∧ -1000 ≤ j ∧ j ≤ 1000 then some (.str (Txt.mul a j), h) else none
  | .loc l, .int j => match h[l]? with
    | some (.lst xs) => if -1000 ≤ j ∧ j ≤ 1000 ∧ xs.length ≤ 1000 then some (.loc h.length, h ++ [.lst (List.replicate j.toNat xs).flatten]) else none
    | _ => none
  | .tup xs, .int j => if xs ≠ [] ∧ 2 ≤ j ∧ j ≤ 1000 ∧ xs.length ≤ 1000 then some (.tup (List.replicate j.toNat xs).flatten, h) else none
  | _, _ => none
def modD : O2 := fun x y h => match x, y with
  | .int i, .int j => if 0 < j then some (.int (i % j), h) else none
  | _, _ => none
def fdivD : O2 := fun x y h => match x, y with
  | .int i, .int j => if 0 < j ∧ j < 1073741824 then some (.int (i / j), h) else none
  | _, _ => none
def powD : O2 := fun x y h => match x, y with
  | .int i, .int j => if 0 ≤ j ∧ j ≤ 1000000 ∧ i.natAbs < 2 ^ 64 then some (.int (i ^ j.toNat), h) else none
  | _, _ => none

section
variable {X : Cx}
theorem OpR.imp {f : Value → Value → Sem Value} {r r' : R2} (o : OpR X f r) (i : ∀ x y H Q, r' x y H Q → r x y H Q) : OpR X f r' :=
  fun pins s σ H x y v u Q I rx ry q => o pins s σ H x y v u Q I rx ry (i x y H Q q)
/-- a rule by its readings, case by case -/
theorem op_of {f : Value → Value → Sem Value} {g : O2}
    (c : ∀ μ h H x y d h' vx vy Q, Rel X.K μ h H → RV X.K H μ x vx → RV X.K H μ y vy → g x y h = some (d, h') → After X.K μ H d h' Q → ∃ r, OpR X f r ∧ r vx vy H Q) : OpR X f (g2 X.K g) :=
  fun pins s σ H x y v u Q I rx ry ⟨μ, h, dx, dy, d, h', R, r1, r2, e, k⟩ => by
    obtain ⟨r, o, q⟩ := c μ h H dx dy d h' x y Q R r1 r2 e k
    exact o pins s σ H x y v u Q I rx ry q
theorem add_ok : OpR X (binaryOp .Add) (g2 X.K addD) := op_of fun μ h H x y d h' vx vy Q R r1 r2 e k => by
  unfold addD at e
  split at e
  · cases e; cases r1; cases r2
    exact ⟨_, op_add, _, _, rfl, rfl, k.val R (.int _)⟩
  · cases e; cases r1; cases r2
    exact ⟨_, op_add_ib, _, _, rfl, rfl, k.val R (.int _)⟩
  · split at e
    · cases e; cases r1; cases r2
      rename_i hz
      exact ⟨_, op_add_str, _, _, rfl, rfl, hz, k.val R (.str _)⟩
    · cases e
  · split at e
    · cases e
      rename_i hz
      cases r1 with
      | tup t1 s1 =>
        cases r2 with
        | tup t2 s2 =>
          refine ⟨_, op_catA, _, _, _, _, rfl, rfl, t1.sq, t2.sq, by rw [← s1.length, ← s2.length]; exact hz, fun e1 => ?_, fun e1 e2 => ?_, fun _ _ => k.newT R (s1.append s2)⟩
          · have := s1.nil_iff.mp e1
            subst this
            exact k.val R (.tup t2 s2)
          · have := s2.nil_iff.mp e2
            subst this
            rw [List.append_nil] at k
            exact k.val R (.tup t1 s1)
    · cases e
  · split at e
    · split at e
      · cases e
        rename_i l m xs ys e1 e2 hz
        obtain ⟨a, rfl, ha⟩ := r1.loc_at
        obtain ⟨b, rfl, hb⟩ := r2.loc_at
        obtain ⟨vs, h1, s1⟩ := R.lst e1 ha
        obtain ⟨us, h2, s2⟩ := R.lst e2 hb
        exact ⟨_, op_cat, a, b, vs, us, rfl, rfl, h1, h2, by rw [← s1.length, ← s2.length]; exact hz, k.newL R (s1.append s2)⟩
      · cases e
    · cases e
  · cases e
theorem sub_ok : OpR X (binaryOp .Sub) (g2 X.K subD) := op_of fun μ h H x y d h' vx vy Q R r1 r2 e k => by
  unfold subD at e
  split at e
  · cases e; cases r1; cases r2
    exact ⟨_, op_sub, _, _, rfl, rfl, k.val R (.int _)⟩
  · cases e
theorem smul_ok {i j : Int} (h : smul i j = true) : CMul i j := by
  unfold smul at h
  rw [Bool.or_eq_true, Bool.and_eq_true, Bool.and_eq_true] at h
  rcases h with ⟨a, b⟩ | ⟨a, b⟩
  · exact .inl ⟨of_decide_eq_true a, of_decide_eq_true b⟩
  · exact .inr ⟨of_decide_eq_true a, of_decide_eq_true b⟩
theorem op_mul_str : OpR X (binaryOp .Mult) (fun x y H Q => ∃ a j, x = .str a ∧ y = .int j ∧ MulOk a j ∧ Q (.str (Txt.mul a j)) H) := by
  intro pins s σ H x y v u Q I rx ry h
  obtain ⟨a, j, rfl, rfl, hm, q⟩ := h
  obtain ⟨t, rfl⟩ := rx
  obtain ⟨t', rfl⟩ := ry
  exact SB.mul hm fun t' k => ⟨.str _, H, I.tok _, ⟨_, rfl⟩, q⟩
theorem mulOk_small {a : Str} {j : Int} (h1 : a.length ≤ 1000) (h2 : -1000 ≤ j) (h3 : j ≤ 1000) : MulOk a j := by
  have hp : ∀ n : Int, 1 ≤ n → n ≤ 1000 → ¬ ((a.length : Int) > (2 ^ 63 - 1) / n) := fun n g1 g2 z => by
    have e : (1000 : Int) ≤ (2 ^ 63 - 1) / n := by
      rw [Int.le_ediv_iff_mul_le (by omega)]
      have : 1000 * n ≤ 1000 * 1000 := by omega
      exact Int.le_trans this (by decide)
    omega
  refine ⟨?_, fun g _ => hp j (by omega) h3, fun g _ => ?_⟩
  · rw [Bool.or_eq_false_iff]
    exact ⟨decide_eq_false (by omega), decide_eq_false (by omega)⟩
  · refine decide_eq_false (Nat.not_lt.mpr ?_)
    refine Nat.le_trans (Nat.mul_le_mul h1 (show j.toNat ≤ 1000 by omega)) ?_
    rw [sizeLine_eq]; decide
theorem mul_ok : OpR X (binaryOp .Mult) (g2 X.K mulD) := op_of fun μ h H x y d h' vx vy Q R r1 r2 e k => by
  unfold mulD at e
  split at e
  · split at e
    · cases e; cases r1; cases r2
      rename_i hz
      exact ⟨_, op_mul, _, _, rfl, rfl, smul_ok hz, k.val R (.int _)⟩
    · cases e
  · split at e
    · cases e; cases r1; cases r2
      rename_i hz
      exact ⟨_, op_mul_str, _, _, rfl, rfl, mulOk_small hz.1 hz.2.1 hz.2.2, k.val R (.str _)⟩
    · cases e
  · split at e
    · split at e
      · cases e
        rename_i e1 hz
        obtain ⟨a, rfl, ha⟩ := r1.loc_at
        cases r2
        obtain ⟨vs, h1, s1⟩ := R.lst e1 ha
        refine ⟨_, op_rep, a, _, vs, rfl, rfl, h1, by omega, by omega, ?_, k.newL R (s1.rep _)⟩
        rw [← s1.length]
        refine Nat.le_trans (Nat.mul_le_mul hz.2.2 (show _ ≤ 1000 by omega)) ?_
        rw [sizeLine_eq]; decide
      · cases e
    · cases e
  · split at e
    · cases e
      rename_i hz
      cases r2
      cases r1 with
      | tup t1 s1 => exact ⟨_, op_repT, _, _, _, rfl, rfl, t1.sq, fun z => hz.1 (s1.nil_iff.mp z), hz.2.1, hz.2.2.1, by rw [← s1.length]; exact hz.2.2.2, k.newT R (s1.rep _)⟩
    · cases e
  · cases e
theorem mod_ok : OpR X (binaryOp .Mod) (g2 X.K modD) := op_of fun μ h H x y d h' vx vy Q R r1 r2 e k => by
  unfold modD at e
  split at e
  · split at e
    · cases e; cases r1; cases r2
      rename_i hz
      exact ⟨_, op_mod, _, _, rfl, rfl, hz, k.val R (.int _)⟩
    · cases e
  · cases e
theorem fdiv_ok : OpR X (binaryOp .FloorDiv) (g2 X.K fdivD) := op_of fun μ h H x y d h' vx vy Q R r1 r2 e k => by
  unfold fdivD at e
  split at e
  · split at e
    · cases e; cases r1; cases r2
      rename_i hz
      exact ⟨_, op_fdiv, _, _, rfl, rfl, hz, k.val R (.int _)⟩
    · cases e
  · cases e
theorem pow_ok : OpR X (binaryOp .Pow) (g2 X.K powD) := op_of fun μ h H x y d h' vx vy Q R r1 r2 e k => by
  unfold powD at e
  split at e
  · split at e
    · cases e; cases r1; cases r2
      rename_i hz
      exact ⟨_, op_pow, _, _, rfl, rfl, hz, k.val R (.int _)⟩
    · cases e
  · cases e
end
end MP

/-! text Mini3 -/
set_option Elab.async false
set_option linter.all false
set_option maxRecDepth 100000
set_option maxHeartbeats 4000000
namespace MP
open PySem PySem.Spec PyProof.Rows L2

/-! ### == -/
mutual
/-- a thing as data, n deep at most -/
def pyD (h : Hs) : Nat → D → Option PyData
  | _, .non => some .none
  | _, .bl b => some (.bool b)
  | _, .int i => some (.int i)
  | _, .str x => some (.str x)
  | n + 1, .tup xs => (pyDs h n xs).map PyData.tuple
  | n + 1, .loc l => match itemsAt h l with
    | some xs => (pyDs h n xs).map PyData.list
    | none => none
  | _, _ => none
  termination_by n d => (n, 0, 0)
def pyDs (h : Hs) : Nat → List D → Option (List PyData)
  | _, [] => some []
  | n, x :: xs => match pyD h n x, pyDs h n xs with
    | some d, some ds => some (d :: ds)
    | _, _ => none
  termination_by n xs => (n, 1, xs.length)
end
mutual
theorem Dp_of {K : PySem.W.Frag} {μ : List Addr} {h : Hs} {H : Hp} (R : Rel K μ h H) : ∀ (n : Nat) (d : D) (v : V) (p : PyData), RV K H μ d v → pyD h n d = some p → Dp K H v p := by
  intro n d v p r e
  unfold pyD at e
  split at e
  · cases e; cases r; exact .non
  · cases e; cases r; exact .bl _
  · cases e; cases r; exact .int _
  · cases e; cases r; exact .str _
  · rename_i n xs
    cases q : pyDs h n xs with
    | none => rw [q] at e; cases e
    | some ps =>
      rw [q] at e; cases e
      cases r with
      | tup t s => exact .tup t.sq (DpAll_of R n _ _ _ s q)
  · rename_i n l
    split at e
    · rename_i xs e1
      cases q : pyDs h n xs with
      | none => rw [q] at e; cases e
      | some ps =>
        rw [q] at e; cases e
        obtain ⟨a, rfl, ha⟩ := r.loc_at
        obtain ⟨vs, t, s⟩ := itemsAt_ok R e1 ha
        exact .lst t (DpAll_of R n _ _ _ s q)
    · cases e
  · cases e
  termination_by n d => (n, 0, 0)
theorem DpAll_of {K : PySem.W.Frag} {μ : List Addr} {h : Hs} {H : Hp} (R : Rel K μ h H) : ∀ (n : Nat) (ds : List D) (vs : List V) (ps : List PyData), RVs K H μ ds vs → pyDs h n ds = some ps → DpAll K H vs ps := by
  intro n ds vs ps r e
  cases ds with
  | nil =>
    cases r
    unfold pyDs at e
    cases e
    exact .nil
  | cons x xs =>
    cases r with
    | cons r1 r2 =>
      unfold pyDs at e
      split at e
      · rename_i p ps e1 e2
        cases e
        exact .cons (Dp_of R n x _ _ r1 e1) (DpAll_of R n xs _ _ r2 e2)
      · cases e
  termination_by n ds => (n, 1, ds.length)
end
/-- scalars -/
def eqS : D → D → Option Bool
  | .non, .non => some true
  | .bl a, .bl b => some (decide (a = b))
  | .int i, .int j => some (decide (i = j))
  | .str a, .str b => some (decide (a = b))
  | .non, .int _ => some false
  | .int _, .non => some false
  | .non, .bl _ => some false
  | .bl _, .non => some false
  | .non, .str _ => some false
  | .str _, .non => some false
  | .int _, .str _ => some false
  | .str _, .int _ => some false
  | .bl _, .str _ => some false
  | .str _, .bl _ => some false
  | _, _ => none
def eqD (h : Hs) (x y : D) : Option Bool := match eqS x y with
  | some b => some b
  | none => match pyD h 20 x, pyD h 20 y with
    | some p, some q => if SeqAt.shaped p = true ∧ SeqAt.shaped q = true then some (PyData.eqv p q) else none
    | _, _ => none
def eqO : O2 := fun x y h => (eqD h x y).map fun b => (.bl b, h)
def neO : O2 := fun x y h => (eqD h x y).map fun b => (.bl (!b), h)
theorem eqS_ok {K : PySem.W.Frag} {H : Hp} {μ : List Addr} {x y : D} {vx vy : V} {b : Bool} (r1 : RV K H μ x vx) (r2 : RV K H μ y vy) (e : eqS x y = some b) : scal vx vy = true ∧ decide (vx = vy) = b := by
  unfold eqS at e
  split at e <;> (first | (cases e; done) | (cases r1; cases r2; cases e; refine ⟨rfl, ?_⟩; simp))
section
variable {X : Cx}
theorem eq_ok (hu : X.A.units + 64 < cLine) : OpR X (compareOp .Eq) (g2 X.K eqO) := op_of fun μ h H x y d h' vx vy Q R r1 r2 e k => by
  unfold eqO eqD at e
  split at e
  · rename_i b eb
    cases e
    obtain ⟨s1, s2⟩ := eqS_ok r1 r2 eb
    refine ⟨_, op_eq, s1, ?_⟩
    rw [s2]
    exact k.val R (.bl _)
  · split at e
    · split at e
      · rename_i p q e1 e2 hs
        cases e
        exact ⟨_, op_eqD hu, p, q, Dp_of R _ _ _ _ r1 e1, Dp_of R _ _ _ _ r2 e2, hs.1, hs.2, k.val R (.bl _)⟩
      · cases e
    · cases e
theorem ne_ok (hu : X.A.units + 64 < cLine) : OpR X (compareOp .NotEq) (g2 X.K neO) := op_of fun μ h H x y d h' vx vy Q R r1 r2 e k => by
  unfold neO eqD at e
  split at e
  · rename_i b eb
    cases e
    obtain ⟨s1, s2⟩ := eqS_ok r1 r2 eb
    refine ⟨_, op_ne, s1, ?_⟩
    rw [s2]
    exact k.val R (.bl _)
  · split at e
    · split at e
      · rename_i p q e1 e2 hs
        cases e
        exact ⟨_, op_neD hu, p, q, Dp_of R _ _ _ _ r1 e1, Dp_of R _ _ _ _ r2 e2, hs.1, hs.2, k.val R (.bl _)⟩
      · cases e
    · cases e
end

/-! ### order, is, in -/
def ltO : O2 := fun x y h => match x, y with
  | .int i, .int j => some (.bl (decide (i < j)), h)
  | .str i, .str j => some (.bl (decide (i.cps.toList < j.cps.toList)), h)
  | _, _ => none
def leO : O2 := fun x y h => match x, y with
  | .int i, .int j => some (.bl (decide (i ≤ j)), h)
  | .str i, .str j => some (.bl (!decide (j.cps.toList < i.cps.toList)), h)
  | _, _ => none
def gtO : O2 := fun x y h => match x, y with
  | .int i, .int j => some (.bl (decide (j < i)), h)
  | .str i, .str j => some (.bl (decide (j.cps.toList < i.cps.toList)), h)
  | _, _ => none
def geO : O2 := fun x y h => match x, y with
  | .int i, .int j => some (.bl (decide (j ≤ i)), h)
  | .str i, .str j => some (.bl (!decide (i.cps.toList < j.cps.toList)), h)
  | _, _ => none
def D.isNon : D → Bool
  | .non => true
  | _ => false
def isO : O2 := fun x y h => match y with
  | .non => some (.bl x.isNon, h)
  | .bl b => match x with
    | .bl a => some (.bl (decide (a = b)), h)
    | _ => none
  | _ => none
def isNotO : O2 := fun x y h => match y with
  | .non => some (.bl (!x.isNon), h)
  | .bl b => match x with
    | .bl a => some (.bl (!decide (a = b)), h)
    | _ => none
  | _ => none
def flatD : D → Bool
  | .non => true
  | .bl _ => true
  | .int _ => true
  | .str _ => true
  | _ => false
def eqF : D → D → Bool
  | .non, .non => true
  | .bl a, .bl b => a == b
  | .bl a, .int b => (if a then 1 else 0) == b
  | .int a, .bl b => a == (if b then 1 else 0)
  | .int a, .int b => a == b
  | .str a, .str b => a == b
  | _, _ => false
def seqAt (h : Hs) : D → Option (List D)
  | .tup xs => some xs
  | .loc n => itemsAt h n
  | _ => none
def inD (h : Hs) (x y : D) : Option Bool := match x, y with
  | .str a, .str b => match a.cps.toList with
    | [c] => some (decide (c ∈ b.cps.toList))
    | _ => none
  | x, y => match seqAt h y with
    | some xs => if flatD x = true ∧ xs.all flatD = true then some (xs.any fun z => eqF z x) else
      match y with
      | .loc _ => match pyD h 20 x, pyDs h 20 xs with
        | some p, some ps => if SeqAt.shaped p = true ∧ SeqAt.shaped (.list ps) = true then some (ps.any fun z => PyData.eqv z p) else none
        | _, _ => none
      | _ => none
    | none => none
def inO : O2 := fun x y h => (inD h x y).map fun b => (.bl b, h)
def notInO : O2 := fun x y h => (inD h x y).map fun b => (.bl (!b), h)
theorem RV.isNon {K : PySem.W.Frag} {H : Hp} {μ : List Addr} {x : D} {v : V} (r : RV K H μ x v) : decide (v = .non) = x.isNon := by
  cases r <;> simp [D.isNon]
theorem RV.flat {K : PySem.W.Frag} {H : Hp} {μ : List Addr} {x : D} {v : V} (r : RV K H μ x v) (f : flatD x = true) : flatV v = true ∧ ∀ (y : D) (u : V), RV K H μ y u → flatD y = true → eqV u v = eqF y x := by
  cases r <;> (first | (cases f; done) | (refine ⟨rfl, fun y u ry fy => ?_⟩; cases ry <;> (first | (cases fy; done) | rfl)))
theorem RVs.flat {K : PySem.W.Frag} {H : Hp} {μ : List Addr} {x : D} {v : V} (r : RV K H μ x v) (f : flatD x = true) : ∀ {xs : List D} {vs : List V}, RVs K H μ xs vs → xs.all flatD = true → vs.all flatV = true ∧ inV v vs = xs.any fun z => eqF z x
  | _, _, .nil, _ => ⟨rfl, rfl⟩
  | _, _, .cons q t, fs => by
    rw [List.all_cons, Bool.and_eq_true] at fs
    obtain ⟨a, b⟩ := RVs.flat r f t fs.2
    refine ⟨by rw [List.all_cons, (q.flat fs.1).1, a]; rfl, ?_⟩
    show (eqV _ v || inV v _) = _
    rw [b, (r.flat f).2 _ _ q fs.1]
    rfl
section
variable {X : Cx}
theorem lt_ok : OpR X (compareOp .Lt) (g2 X.K ltO) := op_of fun μ h H x y d h' vx vy Q R r1 r2 e k => by
  unfold ltO at e
  split at e
  · cases e; cases r1; cases r2
    exact ⟨_, op_lt, _, _, rfl, rfl, k.val R (.bl _)⟩
  · cases e; cases r1; cases r2
    exact ⟨_, op_lt_str, _, _, rfl, rfl, k.val R (.bl _)⟩
  · cases e
theorem le_ok : OpR X (compareOp .LtE) (g2 X.K leO) := op_of fun μ h H x y d h' vx vy Q R r1 r2 e k => by
  unfold leO at e
  split at e
  · cases e; cases r1; cases r2
    exact ⟨_, op_le, _, _, rfl, rfl, k.val R (.bl _)⟩
  · cases e; cases r1; cases r2
    exact ⟨_, op_le_str, _, _, rfl, rfl, k.val R (.bl _)⟩
  · cases e
theorem gt_ok : OpR X (compareOp .Gt) (g2 X.K gtO) := op_of fun μ h H x y d h' vx vy Q R r1 r2 e k => by
  unfold gtO at e
  split at e
  · cases e; cases r1; cases r2
    exact ⟨_, op_gt, _, _, rfl, rfl, k.val R (.bl _)⟩
  · cases e; cases r1; cases r2
    exact ⟨_, op_gt_str, _, _, rfl, rfl, k.val R (.bl _)⟩
  · cases e
theorem ge_ok : OpR X (compareOp .GtE) (g2 X.K geO) := op_of fun μ h H x y d h' vx vy Q R r1 r2 e k => by
  unfold geO at e
  split at e
  · cases e; cases r1; cases r2
    exact ⟨_, op_ge, _, _, rfl, rfl, k.val R (.bl _)⟩
  · cases e; cases r1; cases r2
    exact ⟨_, op_ge_str, _, _, rfl, rfl, k.val R (.bl _)⟩
  · cases e
theorem is_ok : OpR X (compareOp .Is) (g2 X.K isO) := op_of fun μ h H x y d h' vx vy Q R r1 r2 e k => by
  unfold isO at e
  split at e
  · cases e; cases r2
    refine ⟨_, op_isN, rfl, ?_⟩
    rw [r1.isNon]
    exact k.val R (.bl _)
  · split at e
    · cases e; cases r1; cases r2
      exact ⟨_, op_is_bl, _, _, rfl, rfl, k.val R (.bl _)⟩
    · cases e
  · cases e
theorem isNot_ok : OpR X (compareOp .IsNot) (g2 X.K isNotO) := op_of fun μ h H x y d h' vx vy Q R r1 r2 e k => by
  unfold isNotO at e
  split at e
  · cases e; cases r2
    refine ⟨_, op_notN, rfl, ?_⟩
    rw [r1.isNon]
    exact k.val R (.bl _)
  · split at e
    · cases e; cases r1; cases r2
      exact ⟨_, op_isnot_bl, _, _, rfl, rfl, k.val R (.bl _)⟩
    · cases e
  · cases e
theorem seqAt_ok {K : PySem.W.Frag} {μ : List Addr} {h : Hs} {H : Hp} {y : D} {v : V} {xs : List D} (R : Rel K μ h H) (r : RV K H μ y v) (e : seqAt h y = some xs) : ∃ a vs, v = .ref a ∧ (SqL K H a vs ∨ SqT K H a vs) ∧ RVs K H μ xs vs := by
  unfold seqAt at e
  split at e
  · cases e
    cases r with
    | tup t s => exact ⟨_, _, rfl, .inr t.sq, s⟩
  · obtain ⟨a, rfl, ha⟩ := r.loc_at
    obtain ⟨vs, t, s⟩ := itemsAt_ok R e ha
    exact ⟨_, _, rfl, .inl t, s⟩
  · cases e
theorem sign_one {a : Str} {c : Nat} (e : a.cps.toList = [c]) : a = ⟨#[c]⟩ := by
  obtain ⟨x⟩ := a
  have : x = #[c] := by
    apply Array.toList_inj.mp
    exact e
  rw [this]
theorem in_of (neg : Bool) (hu : X.A.units + 65 < cLine) {μ : List Addr} {h : Hs} {H : Hp} {x y : D} {vx vy : V} {b : Bool} {Q : VK} (R : Rel X.K μ h H) (r1 : RV X.K H μ x vx) (r2 : RV X.K H μ y vy) (e : inD h x y = some b)
    (k : Q (.bl (if neg then !b else b)) H) : ∃ r, OpR X (compareOp (if neg then .NotIn else .In)) r ∧ r vx vy H Q := by
  unfold inD at e
  split at e
  · split at e
    · rename_i c ec
      cases e; cases r1; cases r2
      have es := sign_one ec
      cases neg with
      | false => exact ⟨_, op_in_sign, c, _, by rw [es], rfl, k⟩
      | true => exact ⟨_, op_notIn_sign, c, _, by rw [es], rfl, k⟩
    · cases e
  · split at e
    · rename_i xs ex
      obtain ⟨a, vs, rfl, t, s⟩ := seqAt_ok R r2 ex
      split at e
      · rename_i hf
        cases e
        obtain ⟨f1, f2⟩ := RVs.flat r1 hf.1 s hf.2
        cases neg with
        | false => exact ⟨_, op_in_seq, a, vs, rfl, t, (r1.flat hf.1).1, f1, by rw [f2]; exact k⟩
        | true => exact ⟨_, op_notIn_seq, a, vs, rfl, t, (r1.flat hf.1).1, f1, by rw [f2]; exact k⟩
      · split at e
        · split at e
          · split at e
            · rename_i p ps e1 e2 hs
              cases e
              have ex' : itemsAt h _ = some xs := ex
              obtain ⟨a', ea, ha⟩ := r2.loc_at
              cases ea
              obtain ⟨vs', t', s'⟩ := itemsAt_ok R ex' ha
              have dl : Dp X.K H (.ref a) (.list ps) := .lst t' (DpAll_of R _ _ _ _ s' e2)
              cases neg with
              | false => exact ⟨_, op_inD hu, p, ps, Dp_of R _ _ _ _ r1 e1, dl, hs.1, hs.2, k⟩
              | true => exact ⟨_, op_notInD hu, p, ps, Dp_of R _ _ _ _ r1 e1, dl, hs.1, hs.2, k⟩
            · cases e
          · cases e
        · cases e
    · cases e
theorem in_ok (hu : X.A.units + 65 < cLine) : OpR X (compareOp .In) (g2 X.K inO) := op_of fun μ h H x y d h' vx vy Q R r1 r2 e k => by
  unfold inO at e
  cases eb : inD h x y with
  | none => rw [eb] at e; cases e
  | some b =>
    rw [eb] at e; cases e
    exact in_of false hu R r1 r2 eb (k.val R (.bl _))
theorem notIn_ok (hu : X.A.units + 65 < cLine) : OpR X (compareOp .NotIn) (g2 X.K notInO) := op_of fun μ h H x y d h' vx vy Q R r1 r2 e k => by
  unfold notInO at e
  cases eb : inD h x y with
  | none => rw [eb] at e; cases e
  | some b =>
    rw [eb] at e; cases e
    exact in_of true hu R r1 r2 eb (k.val R (.bl _))
end

/-! ### truth, len, places, slices -/
def truD (h : Hs) : D → Option Bool
  | .non => some false
  | .bl b => some b
  | .int i => some (i != 0)
  | .str y => if y.length ≤ sizeLine then some ((y.length : Int) != 0) else none
  | .tup xs => some (!xs.isEmpty)
  | .loc n => (itemsAt h n).map fun xs => !xs.isEmpty
  | _ => none
theorem RVs.isEmpty {K : PySem.W.Frag} {H : Hp} {μ : List Addr} {ds : List D} {vs : List V} (r : RVs K H μ ds vs) : vs.isEmpty = ds.isEmpty := by
  cases r <;> rfl
theorem truD_ok {K : PySem.W.Frag} {μ : List Addr} {h : Hs} {H : Hp} {x : D} {v : V} {b : Bool} (R : Rel K μ h H) (r : RV K H μ x v) (e : truD h x = some b) : TruV K v H b := by
  unfold truD at e
  split at e
  · cases e; cases r; rfl
  · cases e; cases r; rfl
  · cases e; cases r; rfl
  · split at e
    · cases e; cases r
      rename_i hz
      exact ⟨hz, rfl⟩
    · cases e
  · cases e
    cases r with
    | tup t s => exact .inr (.inl ⟨_, t.sq, by rw [s.isEmpty]⟩)
  · rename_i n
    cases q : itemsAt h n with
    | none => rw [q] at e; cases e
    | some xs =>
      rw [q] at e; cases e
      obtain ⟨a, rfl, ha⟩ := r.loc_at
      obtain ⟨vs, t, s⟩ := itemsAt_ok R q ha
      exact .inl ⟨_, t, by rw [s.isEmpty]⟩
  · cases e
def lenD (h : Hs) : D → Option Nat
  | .str y => if y.length ≤ sizeLine then some y.length else none
  | .tup xs => some xs.length
  | .loc n => (itemsAt h n).map List.length
  | _ => none
theorem lenD_ok {K : PySem.W.Frag} {μ : List Addr} {h : Hs} {H : Hp} {x : D} {v : V} {n : Nat} (R : Rel K μ h H) (r : RV K H μ x v) (e : lenD h x = some n) : LenV K v H n := by
  unfold lenD at e
  split at e
  · split at e
    · cases e; cases r
      rename_i hz
      exact ⟨hz, rfl⟩
    · cases e
  · cases e
    cases r with
    | tup t s => exact .inr ⟨_, t.sq, s.length⟩
  · rename_i l
    cases q : itemsAt h l with
    | none => rw [q] at e; cases e
    | some xs =>
      rw [q] at e; cases e
      obtain ⟨a, rfl, ha⟩ := r.loc_at
      obtain ⟨vs, t, s⟩ := itemsAt_ok R q ha
      exact .inl ⟨_, t, s.length⟩
  · cases e
def lenN : ON := fun ds h => match ds with
  | [x] => (lenD h x).map fun (n : Nat) => (.int n, h)
  | _ => none
/-- x[i] -/
def ixO : O2 := fun x y h => match y with
  | .int i => match x with
    | .str z => if z.length ≤ sizeLine then (atI z.cps.toList i).map fun c => (.str ⟨#[c]⟩, h) else none
    | x => match seqAt h x with
      | some xs => (atI xs i).map fun d => (d, h)
      | none => none
  | _ => none
theorem RVs.atI {K : PySem.W.Frag} {H : Hp} {μ : List Addr} {ds : List D} {vs : List V} {i : Int} {d : D} (r : RVs K H μ ds vs) (e : atI ds i = some d) : ∃ v, atI vs i = some v ∧ RV K H μ d v := by
  unfold L2.atI at e ⊢
  rw [← r.length]
  cases q : ixN ds.length i with
  | none => rw [q] at e; cases e
  | some j =>
    rw [q] at e
    exact r.get e
/-- x[lo:hi] -/
def slO (x : D) (lo hi : Option Int) (h : Hs) : Option (D × Hs) := match x with
  | .tup xs => some (.tup ((xs.drop (HT.sIx xs.length 0 lo)).take (HT.sIx xs.length xs.length hi - HT.sIx xs.length 0 lo)), h)
  | .loc n => match itemsAt h n with
    | some xs => some (.loc h.length, h ++ [.lst ((xs.drop (HT.sIx xs.length 0 lo)).take (HT.sIx xs.length xs.length hi - HT.sIx xs.length 0 lo))])
    | none => none
  | _ => none
def gSl (K : PySem.W.Frag) (g : D → Option Int → Option Int → Hs → Option (D × Hs)) : V → Option Int → Option Int → Hp → VK → Prop := fun vx lo hi H Q => ∃ μ h x d h', Rel K μ h H ∧ RV K H μ x vx ∧ g x lo hi h = some (d, h') ∧ After K μ H d h' Q
theorem RVs.cut {K : PySem.W.Frag} {H : Hp} {μ : List Addr} {ds : List D} {vs : List V} (r : RVs K H μ ds vs) (lo hi : Option Int) :
    RVs K H μ ((ds.drop (HT.sIx ds.length 0 lo)).take (HT.sIx ds.length ds.length hi - HT.sIx ds.length 0 lo)) (cutV vs lo hi) := by
  unfold cutV
  rw [← r.length]
  exact (r.drop _).take _
section
variable {X : Cx}
theorem tru_any : TruR X (fun x H Q => ∃ k, TruV X.K x H k ∧ Q k H) := tru_ok
theorem len_ok : CallR X (.builtin "len") (gN X.K lenN) := fun pins s σ H xs us Q I rx ⟨μ, h, ds, d, h', R, r, e, k⟩ => by
  unfold lenN at e
  split at e
  · rename_i x
    cases q : lenD h x with
    | none => rw [q] at e; cases e
    | some n =>
      rw [q] at e; cases e
      cases r with
      | cons r1 r2 =>
        cases r2
        exact call_len pins s σ H _ us Q I rx ⟨_, n, rfl, lenD_ok R r1 q, k.val R (.int _)⟩
  · cases e
theorem ix_of {g : O2} (c : ∀ μ h H x y d h' vx vy Q, Rel X.K μ h H → RV X.K H μ x vx → RV X.K H μ y vy → g x y h = some (d, h') → After X.K μ H d h' Q → ∃ r, IxR X r ∧ r vx vy H Q) : IxR X (g2 X.K g) :=
  fun a b pins s σ H x y v u Q I rx ry ⟨μ, h, dx, dy, d, h', R, r1, r2, e, k⟩ hs => by
    obtain ⟨r, o, q⟩ := c μ h H dx dy d h' x y Q R r1 r2 e k
    exact o a b pins s σ H x y v u Q I rx ry q hs
theorem ix_ok : IxR X (g2 X.K ixO) := ix_of fun μ h H x y d h' vx vy Q R r1 r2 e k => by
  unfold ixO at e
  split at e
  · rename_i i
    cases r2
    split at e
    · split at e
      · rename_i z hz
        cases q : L2.atI z.cps.toList i with
        | none => rw [q] at e; cases e
        | some c =>
          rw [q] at e; cases e
          cases r1
          exact ⟨_, ix_str, z, i, c, rfl, rfl, hz, q, k.val R (.str _)⟩
      · cases e
    · split at e
      · rename_i xs ex
        cases q : L2.atI xs i with
        | none => rw [q] at e; cases e
        | some c =>
          rw [q] at e; cases e
          obtain ⟨a, vs, rfl, t, s⟩ := seqAt_ok R r1 ex
          obtain ⟨w, e1, rw1⟩ := s.atI q
          rcases t with t | t
          · exact ⟨_, ix_list, a, vs, i, w, rfl, rfl, t, e1, k.val R rw1⟩
          · exact ⟨_, ix_tup, a, vs, i, w, rfl, rfl, t, e1, k.val R rw1⟩
      · cases e
  · cases e
theorem sl_ok : SlR X (gSl X.K slO) := fun pins s σ H x v vl vu lo hi sl Q I rx hsl p1 p2 ⟨μ, h, dx, d, h', R, r, e, k⟩ => by
  unfold slO at e
  split at e
  · cases e
    cases r with
    | tup t s1 =>
      refine sl_tupA pins s σ H _ v vl vu lo hi sl Q I rx hsl p1 p2 ⟨_, _, rfl, t.sq, fun hw => ?_, fun _ => k.newT R (s1.cut lo hi)⟩
      have e0 : cutV _ lo hi = _ := (show cutV _ lo hi = _ from by unfold cutV; rw [hw.1, hw.2, List.drop_zero, Nat.sub_zero, List.take_length])
      have s2 := s1.cut lo hi
      rw [e0] at s2
      exact k.val R (.tup t s2)
  · split at e
    · rename_i xs ex
      cases e
      obtain ⟨a, rfl, ha⟩ := r.loc_at
      obtain ⟨vs, t, s1⟩ := itemsAt_ok R ex ha
      exact sl_list pins s σ H _ v vl vu lo hi sl Q I rx hsl p1 p2 ⟨a, vs, rfl, t, k.newL R (s1.cut lo hi)⟩
    · cases e
  · cases e
end
end MP

/-! text Mini4 -/
set_option Elab.async false
set_option linter.all false
set_option maxRecDepth 100000
set_option maxHeartbeats 4000000
namespace PySem.AutoSeq1
open Builtin
theorem list_extend_list_tupleX (l : Addr) (items : Array Value) (n : Nat) (b : Addr) (items2 : Array Value) (n2 : Nat) (dd : Option Addr) (sl : Array (Option Value)) (hs0 : ¬(!items.isEmpty && Builtin.List.listTooLong (items.size + items2.size)) = true) (hs1 : items.size ≤ sizeLine) (hs2 : items.size + items2.size ≤ sizeLine + 1) :
    Meets (Builtin.«list.extend» ⟨[.ref l, .ref b], []⟩) (fun _ R s => s.heap.get? l = some { cls := .type "list", dict := none, data := .seq items n, slots := #[] } ∧ s.heap.get? b = some { cls := .type "tuple", dict := dd, data := .seq items2 n2, slots := sl } ∧ R (.ok (.ret Value.none)) { s with heap := s.heap.update l (Obj.mapSeq fun x => x ++ items2), toks := s.toks }) :=
  .of_wp fun prog w A R s h => by
    obtain ⟨hp, g, d, tk, os⟩ := s; obtain ⟨hl, hb, h⟩ := h; have f1 := idx_int; have f2 := sub_tuple_tuple; have f3 := sub_list_list; have f4 := sub_tuple_list; have f5 := sub_list_tuple;
    have hz' : (items ++ items2).size ≤ sizeLine + 1 := by rw [Array.size_append]; exact hs2
    wp_walk using (wpAny_updateSeq hl rfl (hz := hs1) (_hz' := hz')), wpAny_loadPart' hl, wpAny_loadPart' hb; exact ⟨_, rfl, h⟩
end PySem.AutoSeq1
namespace MP
open PySem PySem.Spec PyProof.Rows L2

/-! ### isinstance -/
def tyD (h : Hs) : D → Option String
  | .non => some "NoneType"
  | .bl _ => some "bool"
  | .int _ => some "int"
  | .str _ => some "str"
  | .tup _ => some "tuple"
  | .loc n => match h[n]? with
    | some (.lst _) => some "list"
    | some (.frz _) => some "list"
    | none => none
  | _ => none
def isT (a b : String) : Bool := a == b || (a == "bool" && b == "int")
def tysA : List String := ["NoneType", "bool", "int", "str", "tuple", "list", "dict"]
def tysB : List String := ["bool", "int", "str", "tuple", "list", "dict"]
theorem isT_all : tysA.all (fun a => tysB.all fun b => kitB a b == some (isT a b)) = true := by decide +kernel
theorem isT_ok {a b : String} (ha : a ∈ tysA) (hb : b ∈ tysB) : kitB a b = some (isT a b) := by
  have h := List.all_eq_true.mp (List.all_eq_true.mp isT_all a ha) b hb
  exact eq_of_beq h
theorem tyD_ok {K : PySem.W.Frag} {μ : List Addr} {h : Hs} {H : Hp} {x : D} {v : V} {t : String} (R : Rel K μ h H) (r : RV K H μ x v) (e : tyD h x = some t) : TyX K H v (.type t) ∧ t ∈ tysA := by
  unfold tyD at e
  split at e
  · cases e; cases r; exact ⟨.base .non, by decide⟩
  · cases e; cases r; exact ⟨.base (.bl _), by decide⟩
  · cases e; cases r; exact ⟨.base (.int _), by decide⟩
  · cases e; cases r; exact ⟨.base (.str _), by decide⟩
  · cases e
    cases r with
    | tup t s =>
      rcases t with t | ⟨o, its, n, e1, e2, _⟩
      · exact ⟨.base (.tup t), by decide⟩
      · exact ⟨.kTuple e1 e2, by decide⟩
  · obtain ⟨a, rfl, ha⟩ := r.loc_at
    split at e
    · rename_i xs e1
      cases e
      obtain ⟨vs, h1, _⟩ := R.lst e1 ha
      exact ⟨.base (.lst h1), by decide⟩
    · rename_i ns e1
      cases e
      rcases R.obj _ _ _ ha e1 with ⟨o, e2⟩ | ⟨o, its, n, e2, e3, _⟩
      · exact ⟨.base (.frz e2), by decide⟩
      · exact ⟨.kList e2 e3, by decide⟩
    · cases e
  · cases e
def tyNames : List D → Option (List String)
  | [] => some []
  | .ty n :: r => match tyNames r with
    | some ns => if tysB.contains n = true then some (n :: ns) else none
    | none => none
  | _ => none
def isinstN : ON := fun ds h => match ds with
  | [x, .ty n] => match tyD h x with
    | some t => if tysB.contains n = true then some (.bl (isT t n), h) else none
    | none => none
  | [x, .tup cs] => match tyD h x, tyNames cs with
    | some t, some ns => some (.bl (ns.any (isT t)), h)
    | _, _ => none
  | _ => none
theorem RVs.tyNames {K : PySem.W.Frag} {H : Hp} {μ : List Addr} : ∀ {cs : List D} {vs : List V} {ns : List String}, RVs K H μ cs vs → MP.tyNames cs = some ns → Paired ClsV vs (ns.map Value.type) ∧ ∀ n ∈ ns, n ∈ tysB := by
  intro cs
  induction cs with
  | nil =>
    intro vs ns r e
    cases r; cases e
    exact ⟨.nil, fun _ z => nomatch z⟩
  | cons c cs ih =>
    intro vs ns r e
    cases r with
    | cons r1 r2 =>
      cases r1 with
      | ty n =>
        unfold MP.tyNames at e
        split at e
        · rename_i ns' e'
          split at e
          · rename_i hc
            cases e
            obtain ⟨i1, i2⟩ := ih r2 e'
            refine ⟨.cons (.ty n) i1, fun m hm => ?_⟩
            rcases List.mem_cons.mp hm with rfl | hm
            · simpa using hc
            · exact i2 m hm
          · cases e
        · cases e
      | _ => cases e
theorem kitAny_of {K : PySem.W.Frag} {t : String} (ht : t ∈ tysA) : ∀ {ns : List String}, (∀ n ∈ ns, n ∈ tysB) → PySem.W.kitAny K (.type t) (ns.map Value.type) = some (ns.any (isT t))
  | [], _ => kitAny_nil
  | n :: r, h => by
    have h1 : PySem.W.kitOne K (.type t) (.type n) = some (isT t n) := kit_ty (isT_ok ht (h n List.mem_cons_self))
    have h2 := kitAny_of (K := K) ht (ns := r) fun m hm => h m (List.mem_cons_of_mem _ hm)
    rw [List.any_cons]
    refine kitAny_cons h1 (fun e => ?_) fun e => by rw [e]; rfl
    rw [e, Bool.false_or]
    exact h2

/-! ### list, tuple, int, min, max, sum, all, any, sorted -/
def listN : ON := fun ds h => match ds with
  | [x] => match seqAt h x with
    | some xs => some (.loc h.length, h ++ [.lst xs])
    | none => none
  | _ => none
def tupleN : ON := fun ds h => match ds with
  | [.tup xs] => some (.tup xs, h)
  | [.loc n] => match itemsAt h n with
    | some xs => some (.tup xs, h)
    | none => none
  | _ => none
def intN : ON := fun ds h => match ds with
  | [.int i] => some (.int i, h)
  | [.bl k] => some (.int (if k then 1 else 0), h)
  | _ => none
def min2N : ON := fun ds h => match ds with
  | [.int i, .int j] => some (.int (if j < i then j else i), h)
  | _ => none
def max2N : ON := fun ds h => match ds with
  | [.int i, .int j] => some (.int (if j > i then j else i), h)
  | _ => none
def asInts : List D → Option (List Int)
  | [] => some []
  | .int i :: r => (asInts r).map (i :: ·)
  | _ => none
def asStrs : List D → Option (List Str)
  | [] => some []
  | .str i :: r => (asStrs r).map (i :: ·)
  | _ => none
def asBls : List D → Option (List Bool)
  | [] => some []
  | .bl i :: r => (asBls r).map (i :: ·)
  | _ => none
def asPairs : List D → Option (List (Int × Int))
  | [] => some []
  | .tup [.int i, .int j] :: r => (asPairs r).map ((i, j) :: ·)
  | _ => none
def D.atItems (h : Hs) : D → Option (List D)
  | .loc n => itemsAt h n
  | _ => none
def sumN : ON := fun ds h => match ds with
  | [x] => match (x.atItems h).bind asInts with
    | some ns => some (.int ns.sum, h)
    | none => none
  | _ => none
def allN : ON := fun ds h => match ds with
  | [x] => match (x.atItems h).bind asBls with
    | some ns => some (.bl (ns.all id), h)
    | none => none
  | _ => none
def anyN : ON := fun ds h => match ds with
  | [x] => match (x.atItems h).bind asBls with
    | some ns => some (.bl (ns.any id), h)
    | none => none
  | _ => none
theorem asInts_eq : ∀ {ds : List D} {ns : List Int}, asInts ds = some ns → ds = ns.map D.int := by
  intro ds
  induction ds with
  | nil => intro ns e; cases e; rfl
  | cons d r ih =>
    intro ns e
    cases d <;> (first | (cases e; done) | skip)
    rename_i i
    cases q : asInts r with
    | none => unfold asInts at e; rw [q] at e; cases e
    | some ms => unfold asInts at e; rw [q] at e; cases e; rw [ih q]; rfl
theorem asStrs_eq : ∀ {ds : List D} {ns : List Str}, asStrs ds = some ns → ds = ns.map D.str := by
  intro ds
  induction ds with
  | nil => intro ns e; cases e; rfl
  | cons d r ih =>
    intro ns e
    cases d <;> (first | (cases e; done) | skip)
    rename_i i
    cases q : asStrs r with
    | none => unfold asStrs at e; rw [q] at e; cases e
    | some ms => unfold asStrs at e; rw [q] at e; cases e; rw [ih q]; rfl
theorem asBls_eq : ∀ {ds : List D} {ns : List Bool}, asBls ds = some ns → ds = ns.map D.bl := by
  intro ds
  induction ds with
  | nil => intro ns e; cases e; rfl
  | cons d r ih =>
    intro ns e
    cases d <;> (first | (cases e; done) | skip)
    rename_i i
    cases q : asBls r with
    | none => unfold asBls at e; rw [q] at e; cases e
    | some ms => unfold asBls at e; rw [q] at e; cases e; rw [ih q]; rfl
def pairD (p : Int × Int) : D := .tup [.int p.1, .int p.2]
theorem asPairs_eq : ∀ {ds : List D} {ns : List (Int × Int)}, asPairs ds = some ns → ds = ns.map pairD := by
  intro ds
  induction ds with
  | nil => intro ns e; cases e; rfl
  | cons d r ih =>
    intro ns e
    unfold asPairs at e
    split at e
    · rename_i h; cases h
    · rename_i i j r' h
      cases h
      cases q : asPairs r with
      | none => rw [q] at e; cases e
      | some ms => rw [q] at e; cases e; rw [ih q]; rfl
    · cases e
theorem D.atItems_ok {K : PySem.W.Frag} {μ : List Addr} {h : Hs} {H : Hp} {x : D} {v : V} {xs : List D} (R : Rel K μ h H) (r : RV K H μ x v) (e : x.atItems h = some xs) : ∃ a vs, v = .ref a ∧ SqL K H a vs ∧ RVs K H μ xs vs := by
  unfold D.atItems at e
  split at e
  · obtain ⟨a, rfl, ha⟩ := r.loc_at
    obtain ⟨vs, t, s⟩ := itemsAt_ok R e ha
    exact ⟨_, _, rfl, t, s⟩
  · cases e
section
variable {X : Cx}
theorem call_of {f : Value} {g : ON} (c : ∀ μ h H ds d h' vs Q, Rel X.K μ h H → RVs X.K H μ ds vs → g ds h = some (d, h') → After X.K μ H d h' Q → ∃ r, CallR X f r ∧ r vs H Q) : CallR X f (gN X.K g) :=
  fun pins s σ H xs us Q I rx ⟨μ, h, ds, d, h', R, r, e, k⟩ => by
    obtain ⟨r', o, q⟩ := c μ h H ds d h' xs Q R r e k
    exact o pins s σ H xs us Q I rx q
theorem isinst_ok' : CallR X (.builtin "isinstance") (gN X.K isinstN) := call_of fun μ h H ds d h' vs Q R r e k => by
  unfold isinstN at e
  split at e
  · split at e
    · rename_i t et
      split at e
      · rename_i hc
        cases e
        cases r with
        | cons r1 r2 =>
          cases r2 with
          | cons r2 r3 =>
            cases r3; cases r2
            obtain ⟨t1, t2⟩ := tyD_ok R r1 et
            exact ⟨_, call_isi, _, _, _, _, _, rfl, .ty _, t1, kit_ty (isT_ok t2 (by simpa using hc)), k.val R (.bl _)⟩
      · cases e
    · cases e
  · split at e
    · rename_i t ns et en
      cases e
      cases r with
      | cons r1 r2 =>
        cases r2 with
        | cons r2 r3 =>
          cases r3
          obtain ⟨t1, t2⟩ := tyD_ok R r1 et
          cases r2 with
          | tup tt ss =>
            obtain ⟨p1, p2⟩ := RVs.tyNames ss en
            have kk := kitAny_of (K := X.K) t2 p2
            rcases tt with tt | ⟨o, its, n, e1, e2, e3, _, e4⟩
            · exact ⟨_, call_isiT, _, _, _, _, _, _, rfl, tt, p1, t1, kk, k.val R (.bl _)⟩
            · have e5 : its.toList = ns.map Value.type := ClsV.all p1 e4
              obtain ⟨oc, od, odt, osl⟩ := o
              cases e2; cases e3
              refine ⟨_, call_isiK, _, _, od, ns.map Value.type, n, osl, _, _, rfl, ?_, t1, kk, k.val R (.bl _)⟩
              rw [← e5]
              exact e1
    · cases e
  · cases e
theorem list_ok : CallR X (.type "list") (gN X.K listN) := call_of fun μ h H ds d h' vs Q R r e k => by
  unfold listN at e
  split at e
  · split at e
    · rename_i xs ex
      cases e
      cases r with
      | cons r1 r2 =>
        cases r2
        obtain ⟨a, us, rfl, t, s⟩ := seqAt_ok R r1 ex
        exact ⟨_, call_list_of, a, us, rfl, t, k.newL R s⟩
    · cases e
  · cases e
theorem tuple_ok : CallR X (.type "tuple") (gN X.K tupleN) := call_of fun μ h H ds d h' vs Q R r e k => by
  unfold tupleN at e
  split at e
  · cases e
    cases r with
    | cons r1 r2 =>
      cases r2
      cases r1 with
      | tup t s => exact ⟨_, call_tuple_of, _, _, rfl, .inr ⟨t.sq, k.val R (.tup t s)⟩⟩
  · split at e
    · rename_i xs ex
      cases e
      cases r with
      | cons r1 r2 =>
        cases r2
        obtain ⟨a, rfl, ha⟩ := r1.loc_at
        obtain ⟨us, t, s⟩ := itemsAt_ok R ex ha
        exact ⟨_, call_tuple_of, a, us, rfl, .inl ⟨t, k.newT R s⟩⟩
    · cases e
  · cases e
theorem int_ok : CallR X (.type "int") (gN X.K intN) := call_of fun μ h H ds d h' vs Q R r e k => by
  unfold intN at e
  split at e
  · cases e
    cases r with
    | cons r1 r2 =>
      cases r2; cases r1
      exact ⟨_, call_int1, .inl ⟨_, rfl, k.val R (.int _)⟩⟩
  · cases e
    cases r with
    | cons r1 r2 =>
      cases r2; cases r1
      exact ⟨_, call_int1, .inr ⟨_, rfl, k.val R (.int _)⟩⟩
  · cases e
theorem min2_ok (hc : X.calm = true) : CallR X (.builtin "min") (gN X.K min2N) := call_of fun μ h H ds d h' vs Q R r e k => by
  unfold min2N at e
  split at e
  · cases e
    cases r with
    | cons r1 r2 =>
      cases r2 with
      | cons r2 r3 =>
        cases r3; cases r2; cases r1
        exact ⟨_, call_min2 hc, _, _, rfl, k.val R (.int _)⟩
  · cases e
theorem max2_ok (hc : X.calm = true) : CallR X (.builtin "max") (gN X.K max2N) := call_of fun μ h H ds d h' vs Q R r e k => by
  unfold max2N at e
  split at e
  · cases e
    cases r with
    | cons r1 r2 =>
      cases r2 with
      | cons r2 r3 =>
        cases r3; cases r2; cases r1
        exact ⟨_, call_max2 hc, _, _, rfl, k.val R (.int _)⟩
  · cases e
theorem sum_ok (hc : X.calm = true) : CallR X (.builtin "sum") (gN X.K sumN) := call_of fun μ h H ds d h' vs Q R r e k => by
  unfold sumN at e
  split at e
  · split at e
    · rename_i ns en
      cases e
      obtain ⟨xs, e1, e2⟩ := Option.bind_eq_some_iff.mp en
      cases r with
      | cons r1 r2 =>
        cases r2
        obtain ⟨a, us, rfl, t, s⟩ := D.atItems_ok R r1 e1
        rw [asInts_eq e2] at s
        rw [s.of_ints] at t
        exact ⟨_, cr_sum hc, a, ns, rfl, t, k.val R (.int _)⟩
    · cases e
  · cases e
theorem all_ok (hc : X.calm = true) : CallR X (.builtin "all") (gN X.K allN) := call_of fun μ h H ds d h' vs Q R r e k => by
  unfold allN at e
  split at e
  · split at e
    · rename_i ns en
      cases e
      obtain ⟨xs, e1, e2⟩ := Option.bind_eq_some_iff.mp en
      cases r with
      | cons r1 r2 =>
        cases r2
        obtain ⟨a, us, rfl, t, s⟩ := D.atItems_ok R r1 e1
        rw [asBls_eq e2] at s
        rw [s.of_bls] at t
        exact ⟨_, cr_all hc, a, ns, rfl, t, k.val R (.bl _)⟩
    · cases e
  · cases e
theorem any_ok (hc : X.calm = true) : CallR X (.builtin "any") (gN X.K anyN) := call_of fun μ h H ds d h' vs Q R r e k => by
  unfold anyN at e
  split at e
  · split at e
    · rename_i ns en
      cases e
      obtain ⟨xs, e1, e2⟩ := Option.bind_eq_some_iff.mp en
      cases r with
      | cons r1 r2 =>
        cases r2
        obtain ⟨a, us, rfl, t, s⟩ := D.atItems_ok R r1 e1
        rw [asBls_eq e2] at s
        rw [s.of_bls] at t
        exact ⟨_, cr_any hc, a, ns, rfl, t, k.val R (.bl _)⟩
    · cases e
  · cases e
end
end MP

/-! text Mini5 -/
set_option Elab.async false
set_option linter.all false
set_option maxRecDepth 100000
set_option maxHeartbeats 4000000
namespace MP
open PySem PySem.Spec PyProof.Rows L2

/-! ### sorted -/
def sortI (ns : List Int) : List Int := ns.mergeSort fun a b => decide (a ≤ b)
theorem sortI_perm (ns : List Int) : (sortI ns).Perm ns := List.mergeSort_perm _ _
theorem sortI_sorted (ns : List Int) : (sortI ns).Pairwise (· ≤ ·) := by
  have h := List.pairwise_mergeSort (le := fun a b : Int => decide (a ≤ b)) (fun a b c h1 h2 => by simp at *; omega) (fun a b => by simp; omega) ns
  exact h.imp fun h => by simpa using h
theorem sortI_uniq {ns ms : List Int} (h1 : ms.Perm ns) (h2 : ms.Pairwise (· ≤ ·)) : ms = sortI ns :=
  (h1.trans (sortI_perm ns).symm).eq_of_pairwise (fun x y _ _ a b => Int.le_antisymm a b) h2 (sortI_sorted ns)
theorem lt_irr : ∀ l : List Nat, ltCps l l = false
  | [] => rfl
  | a :: r => by
    unfold ltCps
    rw [lt_irr r]
    simp
theorem lt_asy : ∀ {l m : List Nat}, ltCps l m = true → ltCps m l = false
  | [], [], h => by cases h
  | [], _ :: _, _ => rfl
  | _ :: _, [], h => by cases h
  | a :: r, b :: t, h => by
    unfold ltCps at h ⊢
    rw [Bool.or_eq_true, Bool.and_eq_true, decide_eq_true_iff, beq_iff_eq] at h
    rcases h with h | ⟨rfl, h⟩
    · rw [Bool.or_eq_false_iff, Bool.and_eq_false_iff]
      refine ⟨decide_eq_false (by omega), .inl (by rw [beq_eq_false_iff_ne]; omega)⟩
    · rw [lt_asy h]
      simp
/-- not l < m is total, transitive, antisymmetric -/
theorem nlt_tr : ∀ {l m k : List Nat}, ltCps m l = false → ltCps k m = false → ltCps k l = false
  | [], m, k, _, _ => by cases k <;> rfl
  | _ :: _, [], _, h, _ => by cases h
  | _ :: _, _ :: _, [], _, h => by cases h
  | a :: r, b :: t, c :: s, h1, h2 => by
    unfold ltCps at h1 h2 ⊢
    rw [Bool.or_eq_false_iff, Bool.and_eq_false_iff, decide_eq_false_iff_not, beq_eq_false_iff_ne] at h1 h2 ⊢
    refine ⟨by omega, ?_⟩
    by_cases e : c = a
    · have e1 : b = a := by omega
      subst e; subst e1
      right
      rcases h1.2 with z | z
      · exact absurd rfl z
      rcases h2.2 with z' | z'
      · exact absurd rfl z'
      exact nlt_tr z z'
    · exact .inl e
theorem nlt_anti : ∀ {l m : List Nat}, ltCps m l = false → ltCps l m = false → l = m
  | [], [], _, _ => rfl
  | [], _ :: _, _, h => by cases h
  | _ :: _, [], h, _ => by cases h
  | a :: r, b :: t, h1, h2 => by
    unfold ltCps at h1 h2
    rw [Bool.or_eq_false_iff, Bool.and_eq_false_iff, decide_eq_false_iff_not, beq_eq_false_iff_ne] at h1 h2
    have e : a = b := by omega
    subst e
    rcases h1.2 with z | z
    · exact absurd rfl z
    rcases h2.2 with z' | z'
    · exact absurd rfl z'
    rw [nlt_anti z z']
def leS (a b : Str) : Bool := !ltCps b.cps.toList a.cps.toList
def sortS (xs : List Str) : List Str := xs.mergeSort leS
theorem Str_ext {a b : Str} (h : a.cps.toList = b.cps.toList) : a = b := by
  obtain ⟨x⟩ := a
  obtain ⟨y⟩ := b
  exact congrArg Str.mk (Array.toList_inj.mp h)
theorem leS_trans (a b c : Str) (h1 : leS a b = true) (h2 : leS b c = true) : leS a c = true := by
  unfold leS at *
  rw [Bool.not_eq_true'] at *
  exact nlt_tr h1 h2
theorem leS_total (a b : Str) : (leS a b || leS b a) = true := by
  unfold leS
  cases h : ltCps b.cps.toList a.cps.toList with
  | false => rfl
  | true => rw [lt_asy h]; rfl
theorem leS_anti {a b : Str} (h1 : leS a b = true) (h2 : leS b a = true) : a = b := by
  unfold leS at *
  rw [Bool.not_eq_true'] at *
  exact Str_ext (nlt_anti h1 h2)
theorem sortS_perm (xs : List Str) : (sortS xs).Perm xs := List.mergeSort_perm _ _
theorem sortS_sorted (xs : List Str) : (sortS xs).Pairwise fun a b => leS a b = true := List.pairwise_mergeSort leS_trans leS_total xs
theorem rising_pw : ∀ (p : Str) (l : List Str), risingS p l = true → (p :: l).Pairwise fun a b => leS a b = true
  | p, [], _ => List.pairwise_singleton _ _
  | p, x :: r, h => by
    unfold risingS at h
    rw [Bool.and_eq_true] at h
    have ih := rising_pw x r h.2
    refine List.pairwise_cons.mpr ⟨fun y hy => ?_, ih⟩
    rcases List.mem_cons.mp hy with rfl | hy
    · exact h.1
    · exact leS_trans _ _ _ h.1 ((List.pairwise_cons.mp ih).1 y hy)
theorem sortedS_pw {l : List Str} (h : sortedS l = true) : l.Pairwise fun a b => leS a b = true := by
  cases l with
  | nil => exact .nil
  | cons x r => exact rising_pw x r h
theorem sortS_uniq {xs ys : List Str} (h1 : ys.Perm xs) (h2 : ys.Pairwise fun a b => leS a b = true) : ys = sortS xs :=
  (h1.trans (sortS_perm xs).symm).eq_of_pairwise (fun x y _ _ a b => leS_anti a b) h2 (sortS_sorted xs)
def leP (p q : Int × Int) : Bool := !SrtO.lexB q p
def sortP (ps : List (Int × Int)) : List (Int × Int) := ps.mergeSort leP
theorem leP_iff {p q : Int × Int} : leP p q = true ↔ p.1 < q.1 ∨ (p.1 = q.1 ∧ p.2 ≤ q.2) := by
  unfold leP
  rw [Bool.not_eq_true', SrtO.lexB_no]
  omega
theorem sortP_perm (ps : List (Int × Int)) : (sortP ps).Perm ps := List.mergeSort_perm _ _
theorem sortP_sorted (ps : List (Int × Int)) : (sortP ps).Pairwise fun a b => leP a b = true :=
  List.pairwise_mergeSort (fun a b c h1 h2 => by rw [leP_iff] at *; omega) (fun a b => by rw [Bool.or_eq_true, leP_iff, leP_iff]; omega) ps
theorem sortP_uniq {ps qs : List (Int × Int)} (h1 : qs.Perm ps) (h2 : qs.Pairwise fun a b => leP a b = true) : qs = sortP ps :=
  (h1.trans (sortP_perm ps).symm).eq_of_pairwise (fun x y _ _ a b => by rw [leP_iff] at *; exact Prod.ext (by omega) (by omega)) h2 (sortP_sorted ps)
def sortedN : ON := fun ds h => match ds with
  | [x] => match x.atItems h with
    | some xs => match asInts xs with
      | some ns => some (.loc h.length, h ++ [.lst ((sortI ns).map D.int)])
      | none => match asStrs xs with
        | some ss => if ss.length < 64 then some (.loc h.length, h ++ [.lst ((sortS ss).map D.str)]) else none
        | none => match asPairs xs with
          | some ps => some (.loc h.length, h ++ [.lst ((sortP ps).map pairD)])
          | none => none
    | none => none
  | _ => none
section
variable {X : Cx}
/-- sorted of pairs of ints, wherever the pairs stand -/
theorem cr_sortedPT : CallR X (.builtin "sorted") (fun vs H Q => ∃ (a : Addr) (xs : List V) (k : V → Int × Int), vs = [V.ref a] ∧ SqL X.K H a xs ∧ (∀ x ∈ xs, ∃ t, x = V.ref t ∧ SqT X.K H t [.int (k x).1, .int (k x).2]) ∧
    ∀ ys p, SrtO.Srtd (ltP k) ys → SrtO.Stb (ltP k) ys xs → H p = none → Q (.ref p) (upd H p (.lst ys))) := by
  intro pins s σ H vs us Q I r h
  obtain ⟨a, xs, k, rfl, hs, hx, q⟩ := h
  obtain ⟨its, rv, hl, hz⟩ := I.list hs
  obtain ⟨u, rfl, ru⟩ := vals1 r
  obtain rfl : u = Value.ref a := ru
  obtain ⟨e1, e2⟩ := refs_back rv fun x m => by
    obtain ⟨t, e, _⟩ := hx x m
    exact ⟨t, e⟩
  refine SrtO.sorted_pairsO (k := fun u => k (backV u)) hl.isList (by rw [← rv.length]; exact hz) (fun v hv => ?_) fun h' d out h1 h2 kp hd hn => ?_
  · obtain ⟨t, rfl⟩ := e2 v hv
    have hm : V.ref t ∈ xs := by rw [e1]; exact List.mem_map.mpr ⟨_, hv, rfl⟩
    obtain ⟨t', e, ht⟩ := hx _ hm
    cases e
    obtain ⟨its2, r2, ⟨o, ho, hc, n, hd⟩, _⟩ := I.tuple ht
    obtain ⟨u1, u2, rfl, ri, rj⟩ := vals2 r2
    obtain ⟨t1, rfl⟩ := ri
    obtain ⟨t2, rfl⟩ := rj
    exact ⟨t, o, t1, t2, n, rfl, ho, hc, hd⟩
  · have h3 : ∀ u ∈ out, ∃ a, u = Value.ref a := fun u hu => e2 u (h2.perm.mem_iff.mp hu)
    obtain ⟨n, hn⟩ := hn
    have hb : SrtO.Stb (ltP k) (out.map backV) xs := by
      rw [e1]
      exact SrtO.Stb.map (ltP_swo k) backV h2
    refine ⟨.ref d, upd H d (.lst (out.map backV)), I.laid (t' := s.toks) kp hd ⟨?_, out, n, vals_back h3, hn⟩, rfl, q _ d (SrtO.srtd_map h1) hb (I.hok.fresh hd)⟩
    rw [hb.len]
    exact hz
theorem RVs.mem {K : PySem.W.Frag} {H : Hp} {μ : List Addr} {ds : List D} {vs : List V} (r : RVs K H μ ds vs) {v : V} (hv : v ∈ vs) : ∃ d ∈ ds, RV K H μ d v := by
  obtain ⟨i, hi⟩ := List.getElem?_of_mem hv
  obtain ⟨d, e, rr⟩ := r.gets hi
  exact ⟨d, List.mem_of_getElem? e, rr⟩
theorem RVs.of_map {K : PySem.W.Frag} {H : Hp} {μ : List Addr} {α : Type} (f : α → D) (g : V → α) : ∀ vs : List V, (∀ v ∈ vs, RV K H μ (f (g v)) v) → RVs K H μ ((vs.map g).map f) vs
  | [], _ => .nil
  | v :: r, h => .cons (h v List.mem_cons_self) (RVs.of_map f g r fun u hu => h u (List.mem_cons_of_mem _ hu))
open Classical in
/-- which pair stands at a value -/
noncomputable def keyAt (K : PySem.W.Frag) (H : Hp) (μ : List Addr) (v : V) : Int × Int := if c : ∃ p, RV K H μ (pairD p) v then Classical.choose c else (0, 0)
theorem RV.pair_inj {K : PySem.W.Frag} {H : Hp} {μ : List Addr} {v : V} {p q : Int × Int} {pins : List (Addr × Obj)} {σ : L2.St} {s : Shared} (I : Inv X pins σ H s) (hK : K = X.K) (a : RV K H μ (pairD p) v) (b : RV K H μ (pairD q) v) : p = q := by
  subst hK
  cases a with
  | tup t s1 =>
    cases b with
    | tup t' s2 =>
      have e := I.tuple_inj t.sq t'.sq
      subst e
      cases s1 with
      | cons r1 r2 =>
        cases r2 with
        | cons r2 r3 =>
          cases r3; cases r1; cases r2
          cases s2 with
          | cons q1 q2 =>
            cases q2 with
            | cons q2 q3 =>
              cases q3
              obtain ⟨p1, p2⟩ := p
              obtain ⟨q1', q2'⟩ := q
              cases q1; cases q2
              rfl
theorem sorted_ok : CallR X (.builtin "sorted") (gN X.K sortedN) := fun pins s σ H vs us Q I rx ⟨μ, h, ds, d, h', R, r, e, k⟩ => by
  unfold sortedN at e
  split at e
  · split at e
    · rename_i xs ex
      cases r with
      | cons r1 r2 =>
        cases r2
        obtain ⟨a, ws, rfl, t, ss⟩ := D.atItems_ok R r1 ex
        split at e
        · rename_i ns en
          cases e
          rw [asInts_eq en] at ss
          rw [ss.of_ints] at t
          refine cr_sortedI pins s σ H _ us Q I rx ⟨a, ns, rfl, t, fun ns' p h1 h2 hp => ?_⟩
          rw [sortI_uniq h1 h2]
          exact k.newL R (RVs.ints _) p hp
        · split at e
          · rename_i zs ez
            split at e
            · rename_i hl
              cases e
              rw [asStrs_eq ez] at ss
              rw [ss.of_strs] at t
              refine cr_sortedS pins s σ H _ us Q I rx ⟨a, zs, rfl, t, hl, fun ys p h1 h2 hp => ?_⟩
              rw [sortS_uniq h1 (sortedS_pw h2)]
              refine k.newL R ?_ p hp
              exact RVs.strs _
            · cases e
          · split at e
            · rename_i ps ep
              cases e
              rw [asPairs_eq ep] at ss
              have hk : ∀ (v : V) (p : Int × Int), RV X.K H μ (pairD p) v → keyAt X.K H μ v = p := fun v p hv => by
                unfold keyAt
                have c : ∃ p, RV X.K H μ (pairD p) v := ⟨p, hv⟩
                rw [dif_pos c]
                exact RV.pair_inj I rfl (Classical.choose_spec c) hv

              have hm : ∀ v ∈ ws, ∃ p ∈ ps, RV X.K H μ (pairD p) v := fun v hv => by
                obtain ⟨d, hd, rr⟩ := ss.mem hv
                obtain ⟨p, hp, rfl⟩ := List.mem_map.mp hd
                exact ⟨p, hp, rr⟩
              have hmap : ∀ {vs : List V} {qs : List (Int × Int)}, RVs X.K H μ (qs.map pairD) vs → vs.map (keyAt X.K H μ) = qs := by
                intro vs qs
                induction qs generalizing vs with
                | nil => intro r; cases r; rfl
                | cons q qs ih =>
                  intro r
                  cases r with
                  | cons r1 r2 => rw [List.map_cons, hk _ _ r1, ih r2]
              refine cr_sortedPT pins s σ H _ us Q I rx ⟨a, ws, keyAt X.K H μ, rfl, t, fun x hx => ?_, fun ys p h1 h2 hp => ?_⟩
              · obtain ⟨p, _, rr⟩ := hm x hx
                rw [hk x p rr]
                cases rr with
                | tup t1 s1 =>
                  cases s1 with
                  | cons q1 q2 =>
                    cases q2 with
                    | cons q2 q3 =>
                      cases q3; cases q1; cases q2
                      exact ⟨_, rfl, t1.sq⟩
              · have ey : ys.map (keyAt X.K H μ) = sortP ps := by
                  refine sortP_uniq ?_ ?_
                  · have := h2.perm.map (keyAt X.K H μ)
                    rw [hmap ss] at this
                    exact this
                  · rw [List.pairwise_map]
                    refine h1.imp fun {x y} hxy => ?_
                    unfold leP
                    rw [Bool.not_eq_true']
                    exact hxy
                have := RVs.of_map (K := X.K) (H := H) (μ := μ) pairD (keyAt X.K H μ) ys fun v hv => by
                  obtain ⟨p, _, rr⟩ := hm v (h2.perm.mem_iff.mp hv)
                  rw [hk v p rr]
                  exact rr
                rw [ey] at this
                exact k.newL R this p hp
            · cases e
    · cases e
  · cases e
end

/-! ### methods of lists; stores -/
abbrev OM := D → List D → Hs → Option (D × Hs)
def gM (K : PySem.W.Frag) (g : OM) : V → List V → Hp → VK → Prop := fun vx vs H Q => ∃ μ h x ds d h', Rel K μ h H ∧ RV K H μ x vx ∧ RVs K H μ ds vs ∧ g x ds h = some (d, h') ∧ After K μ H d h' Q
def appendM : OM := fun x ds h => match x, ds with
  | .loc n, [d] => match h[n]? with
    | some (.lst xs) => if xs.length < sizeLine then some (.non, h.set n (.lst (xs ++ [d]))) else none
    | _ => none
  | _, _ => none
def extendM : OM := fun x ds h => match x, ds with
  | .loc n, [.loc m] => match h[n]?, h[m]? with
    | some (.lst xs), some (.lst ys) => if xs.length + ys.length ≤ sizeLine then some (.non, h.set n (.lst (xs ++ ys))) else none
    | _, _ => none
  | .loc n, [.tup ys] => match h[n]? with
    | some (.lst xs) => if xs.length + ys.length ≤ sizeLine then some (.non, h.set n (.lst (xs ++ ys))) else none
    | _ => none
  | _, _ => none
def popM : OM := fun x ds h => match x, ds with
  | .loc n, [] => match h[n]? with
    | some (.lst xs) => match xs[xs.length - 1]? with
      | some d => some (d, h.set n (.lst xs.dropLast))
      | none => none
    | _ => none
  | .loc n, [.int i] => match h[n]? with
    | some (.lst xs) => if -(2 ^ 63) ≤ i ∧ i < 2 ^ 63 then match seqIndex? i xs.length with
      | some k => match xs[k]? with
        | some d => some (d, h.set n (.lst (xs.eraseIdx k)))
        | none => none
      | none => none else none
    | _ => none
  | _, _ => none
def indexM : OM := fun x ds h => match x, ds with
  | .loc n, [d] => match itemsAt h n with
    | some xs => if flatD d = true ∧ xs.all flatD = true then match xs.findIdx? (fun z => eqF z d) with
      | some j => some (.int j, h)
      | none => none else none
    | none => none
  | _, _ => none
/-- x[i] = d -/
def setD (x i d : D) (h : Hs) : Option Hs := match x, i with
  | .loc n, .int k => match h[n]? with
    | some (.lst xs) => match ixN xs.length k with
      | some j => some (h.set n (.lst (xs.set j d)))
      | none => none
    | _ => none
  | _, _ => none
section
variable {X : Cx}
theorem meth_of {id : String} {g : OM} (c : ∀ μ h H x ds d h' vx vs Q, Rel X.K μ h H → RV X.K H μ x vx → RVs X.K H μ ds vs → g x ds h = some (d, h') → After X.K μ H d h' Q → ∃ r, MtR X id r ∧ r vx vs H Q) : MtR X id (gM X.K g) :=
  fun pins s σ H x xs v us Q I rx rxs ⟨μ, h, dx, ds, d, h', R, r1, r2, e, k⟩ => by
    obtain ⟨r', o, q⟩ := c μ h H dx ds d h' x xs Q R r1 r2 e k
    exact o pins s σ H x xs v us Q I rx rxs q
theorem append_ok : MtR X "list.append" (gM X.K appendM) := meth_of fun μ h H x ds d h' vx vs Q R r1 r2 e k => by
  unfold appendM at e
  split at e
  · split at e
    · rename_i n d0 xs e1
      split at e
      · rename_i hz
        cases e
        obtain ⟨a, rfl, ha⟩ := r1.loc_at
        obtain ⟨ws, h1, s1⟩ := R.lst e1 ha
        cases r2 with
        | cons q1 q2 =>
          cases q2
          exact ⟨_, mt_append, a, ws, _, rfl, rfl, h1, by rw [← s1.length]; exact hz, k.wr R e1 ha (s1.append (.cons q1 .nil)) .non⟩
      · cases e
    · cases e
  · cases e
theorem mt_extendT : MtR X "list.extend" (fun x vs H Q => ∃ l b xs zs, x = .ref l ∧ vs = [.ref b] ∧ H l = some (.lst xs) ∧ SqT X.K H b zs ∧ xs.length + zs.length ≤ sizeLine ∧ Q .non (upd H l (.lst (xs ++ zs)))) := by
  intro pins s σ H x vs v us Q I rx rv h
  obtain ⟨l, b, xs, zs, rfl, rfl, hH, hB, hz, q⟩ := h
  cases rx
  obtain ⟨u, rfl, ru⟩ := rv.one
  cases ru
  obtain ⟨z, its, n, r, hl, e⟩ := I.lstM hH
  obtain ⟨its2, r2, ⟨⟨oc, dd, od, sl⟩, e2, hc, n2, hd⟩, z2⟩ := I.tuple hB
  simp only at hc hd
  subst hc hd
  have hl2 : zs.length = its2.length := r2.length
  have hsz : its.toArray.size + its2.toArray.size ≤ sizeLine := by rw [List.size_toArray, List.size_toArray]; omega
  have hlong : ¬ (!its.toArray.isEmpty && Builtin.List.listTooLong (its.toArray.size + its2.toArray.size)) = true := by
    rw [notLongL hsz, Bool.and_false]
    exact Bool.false_ne_true
  refine call_meets F.slot_list_extend ⟨_, e, rfl⟩ F.entry_list_extend (F.args_list_extend_2 _ _)
    (AutoSeq1.list_extend_list_tupleX l its.toArray n b its2.toArray n2 dd sl hlong (by rw [List.size_toArray]; omega) (by omega)) ⟨e, e2, ?_⟩
  refine ⟨.non, _, I.lset (its' := its ++ its2) hH e (by simp) (r.append r2) ?_, rfl, q⟩
  rw [List.length_append]
  omega
theorem extend_ok : MtR X "list.extend" (gM X.K extendM) := meth_of fun μ h H x ds d h' vx vs Q R r1 r2 e k => by
  unfold extendM at e
  split at e
  · split at e
    · rename_i n m xs ys e1 e2
      split at e
      · rename_i hz
        cases e
        obtain ⟨a, rfl, ha⟩ := r1.loc_at
        obtain ⟨ws, h1, s1⟩ := R.lst e1 ha
        cases r2 with
        | cons q1 q2 =>
          cases q2
          obtain ⟨b, rfl, hb⟩ := q1.loc_at
          obtain ⟨us, h2, s2⟩ := R.lst e2 hb
          exact ⟨_, mt_extend, a, b, ws, us, rfl, rfl, h1, h2, by rw [← s1.length, ← s2.length]; exact hz, k.wr R e1 ha (s1.append s2) .non⟩
      · cases e
    · cases e
  · split at e
    · rename_i n ys xs e1
      split at e
      · rename_i hz
        cases e
        obtain ⟨a, rfl, ha⟩ := r1.loc_at
        obtain ⟨ws, h1, s1⟩ := R.lst e1 ha
        cases r2 with
        | cons q1 q2 =>
          cases q2
          cases q1 with
          | tup t s2 => exact ⟨_, mt_extendT, a, _, ws, _, rfl, rfl, h1, t.sq, by rw [← s1.length, ← s2.length]; exact hz, k.wr R e1 ha (s1.append s2) .non⟩
      · cases e
    · cases e
  · cases e
theorem pop_ok : MtR X "list.pop" (gM X.K popM) := meth_of fun μ h H x ds d h' vx vs Q R r1 r2 e k => by
  unfold popM at e
  split at e
  · split at e
    · rename_i n xs e1
      split at e
      · rename_i d0 e2
        cases e
        obtain ⟨a, rfl, ha⟩ := r1.loc_at
        obtain ⟨ws, h1, s1⟩ := R.lst e1 ha
        cases r2
        obtain ⟨w, hw, rw1⟩ := s1.get e2
        exact ⟨_, mt_pop, a, ws, w, rfl, rfl, h1, by rw [← s1.length]; exact hw, k.wr R e1 ha s1.dropLast rw1⟩
      · cases e
    · cases e
  · split at e
    · rename_i n i xs e1
      split at e
      · rename_i hb
        split at e
        · rename_i kk ek
          split at e
          · rename_i d0 e2
            cases e
            obtain ⟨a, rfl, ha⟩ := r1.loc_at
            obtain ⟨ws, h1, s1⟩ := R.lst e1 ha
            cases r2 with
            | cons q1 q2 =>
              cases q2; cases q1
              obtain ⟨w, hw, rw1⟩ := s1.get e2
              exact ⟨_, mt_popAt, a, ws, _, kk, w, rfl, rfl, h1, hb.1, hb.2, by rw [← s1.length]; exact ek, hw, k.wr R e1 ha (s1.eraseIdx kk) rw1⟩
          · cases e
        · cases e
      · cases e
    · cases e
  · cases e
theorem index_ok : MtR X "list.index" (gM X.K indexM) := meth_of fun μ h H x ds d h' vx vs Q R r1 r2 e k => by
  unfold indexM at e
  split at e
  · split at e
    · rename_i n d0 xs e1
      split at e
      · rename_i hf
        split at e
        · rename_i j ej
          cases e
          obtain ⟨a, rfl, ha⟩ := r1.loc_at
          obtain ⟨ws, t, s1⟩ := itemsAt_ok R e1 ha
          cases r2 with
          | cons q1 q2 =>
            cases q2
            obtain ⟨f1, _⟩ := RVs.flat q1 hf.1 s1 hf.2
            obtain ⟨hlt, hp, hno⟩ := List.findIdx?_eq_some_iff_getElem.mp ej
            have hx : xs[j]? = some xs[j] := List.getElem?_eq_getElem hlt
            obtain ⟨w, hw, rw1⟩ := s1.get hx
            have fl : ∀ z ∈ xs, flatD z = true := List.all_eq_true.mp hf.2
            refine ⟨_, mt_index, a, ws, _, j, w, rfl, rfl, t, (q1.flat hf.1).1, f1, hw, ?_, fun m z' hm hz => ?_, k.val R (.int _)⟩
            · rw [(q1.flat hf.1).2 _ _ rw1 (fl _ (List.mem_of_getElem? hx))]
              exact hp
            · obtain ⟨d', hd', rd'⟩ := s1.gets hz
              rw [(q1.flat hf.1).2 _ _ rd' (fl _ (List.mem_of_getElem? hd'))]
              obtain ⟨hlt', e'⟩ := List.getElem?_eq_some_iff.mp hd'
              have := hno m hm
              rw [e'] at this
              simpa using this
        · cases e
      · cases e
    · cases e
  · cases e
def gSet (K : PySem.W.Frag) : V → V → V → Hp → (Hp → Prop) → Prop := fun vo vi vv H Q => ∃ μ h x i d h', Rel K μ h H ∧ RV K H μ x vo ∧ RV K H μ i vi ∧ RV K H μ d vv ∧ setD x i d h = some h' ∧
  ∀ μ' H', Rel K μ' h' H' → Stp K μ H μ' H' → Q H'
theorem set_ok : PSet X (gSet X.K) := fun pins s σ H o i v ov iv u Q I ro ri rv ⟨μ, h, x, di, d, h', R, r1, r2, r3, e, k⟩ => by
  unfold setD at e
  split at e
  · split at e
    · rename_i n kk xs e1
      split at e
      · rename_i j ej
        cases e
        obtain ⟨a, rfl, ha⟩ := r1.loc_at
        cases r2
        obtain ⟨ws, h1, s1⟩ := R.lst e1 ha
        refine set_list pins s σ H _ _ v ov iv u Q I ro ri rv ⟨a, ws, _, j, rfl, rfl, h1, by rw [← s1.length]; exact ej, ?_⟩
        obtain ⟨R', S⟩ := R.write (u' := .lst (ws.set j v)) (o' := .lst (xs.set j d)) e1 rfl ha rfl fun u e m => ⟨_, upd_same, (s1.set r3 j).mono (Stp.upd e m)⟩
        exact k _ _ R' S
      · cases e
    · cases e
  · cases e
end
end MP

/-! text Mini6 -/
set_option Elab.async false
set_option linter.all false
set_option maxRecDepth 100000
set_option maxHeartbeats 4000000
namespace PySem
open Sem (wp)
open AutoSeq1 (wpAny_loadPart')
theorem meets_enumerate_newT {v : Value} {o : Obj} {H : Heap → Prop} (B : Begins v o H) :
    Meets (Builtin.«enumerate.__new__» ⟨[.type "enumerate", v], []⟩) (fun _ R s => H s.heap ∧
      R (.ok (.ret (.ref (s.heap.push o).objs.size))) { s with heap := (s.heap.push o).push { cls := .type "enumerate", data := .fields #[.none, .bool false, .ref s.heap.objs.size, rawInt 0, .none, .none] } }) :=
  .of_wp fun prog w A R s h => by
    obtain ⟨hp, g, d, tk, os⟩ := s; obtain ⟨h1, h⟩ := h
    have hsub := sub_enumerate
    have q1 : ∀ {A' : Around} {E : Value → Shared → Prop} {Q : Value → Shared → Prop}, Q (.ref hp.objs.size) ⟨hp.push o, g, d, tk, os⟩ → wpAny (model prog w) A' (pyIter v) Q E ⟨hp, g, d, tk, os⟩ :=
      fun q => B.iter prog w _ _ ⟨hp, g, d, tk, os⟩ _ h1 q
    wp_walk using q1
    refine wpAny_stack_any fun st => wpAny_pure ?_
    split
    · rename_i c _ _ _ _ _
      cases (c == Value.type "enumerate")
      · wp_walk using q1
        exact ⟨_, rfl, h⟩
      · wp_walk using q1
        exact ⟨_, rfl, h⟩
    · wp_walk using q1
      exact ⟨_, rfl, h⟩
section
variable {prog : Program} {w : World} {A : Around} {E : Value → Shared → Prop} {s : Shared}
theorem enum_begins1 {v : Value} {o : Obj} {H : Heap → Prop} {Q : Value → Shared → Prop} (B : Begins v o H) (h1 : H s.heap)
    (h : ∀ h', IsEnum h' (s.heap.objs.size + 1) s.heap.objs.size 0 .none → h'.get? s.heap.objs.size = some o → h'.objs.size = s.heap.objs.size + 2 →
      (∀ b o, s.heap.get? b = some o → h'.get? b = some o) → Q (.ref (s.heap.objs.size + 1)) { s with heap := h' }) :
    wpAny (model prog w) A (call (.type "enumerate") [v]) Q E s := by
  refine callType_new F.called_enumerate (by decide) (F.typeCall_enumerate_1 _) (F.newCall_enumerate_1 _) (fun obj => F.args_object_init_2 obj _) F.entry_enumerate_new
    (meets_enumerate_newT B) ⟨h1, ?_⟩
  have hz : (s.heap.push o).objs.size = s.heap.objs.size + 1 := Heap.size_push ..
  show _ ∧ _
  rw [hz]
  have he : IsEnum ((s.heap.push o).push { cls := .type "enumerate", data := .fields #[.none, .bool false, .ref s.heap.objs.size, rawInt 0, .none, .none] }) (s.heap.objs.size + 1) s.heap.objs.size 0 .none := by
    have := Heap.get?_push_size (s.heap.push o) (o := { cls := .type "enumerate", data := .fields #[.none, .bool false, .ref s.heap.objs.size, rawInt 0, .none, .none] }) rfl
    rw [hz] at this; exact this
  refine ⟨⟨_, he, rfl⟩, h _ he (Heap.get?_push_of_some _ (Heap.get?_push_size _ B.free)) (by rw [Heap.size_push, hz]) fun b o x => Heap.get?_push_of_some _ (Heap.get?_push_of_some _ x)⟩
end
end PySem
namespace MP
open PySem PySem.Spec PyProof.Rows L2
/-- enumerate(tuple) -/
def IteT (K : PySem.W.Frag) (a : Addr) : It :=
  ⟨fun i H => ∃ (xs : List V) (x : V), SqT K H a xs ∧ xs[i]? = some x, fun i H v H' => ∃ T x, v = .ref T ∧ H T = none ∧ H' = upd H T (.tup [.int (i : Nat), x]) ∧ ∀ xs, SqT K H a xs → xs[i]? = some x, fun i H => ∃ xs : List V, SqT K H a xs ∧ xs.length = i⟩
theorem turn_enumT {P : Program} {w : World} {K : PySem.W.Frag} {elts : List Expr} {kk : Nat} {tpos : Pos} (a e it : Addr) :
    Turn P w K (.Tuple elts kk tpos) (IteT K a) [e, it] e (fun i h => (∃ old, IsEnum h e it ((i : Nat) : Int) old) ∧ h.IsTupleIter it a i ∧ e ≠ it ∧ a ≠ e ∧ a ≠ it) where
  mem := by simp
  obj := fun i h st b hb => by
    obtain ⟨⟨old, he⟩, ⟨o, ho, hc, hd⟩, _⟩ := st
    have e' : b = e ∨ b = it := by simpa using hb
    rcases e' with z | z
    · rw [z]; exact ⟨_, he, fun v q => nomatch q⟩
    · rw [z]; exact ⟨o, ho, fun v q => by rw [hd] at q; cases q⟩
  keep := fun i h h' st k => let ⟨⟨old, he⟩, hi, hne⟩ := st; ⟨⟨old, k e (by simp) _ he⟩, hi.at fun o q => k it (by simp) o q, hne⟩
  item := by
    intro X hP hw hK hc i pins s σ H E I hf st hg
    subst hP hw hK
    obtain ⟨⟨old, he⟩, hit, hne, hae, hai⟩ := st
    obtain ⟨xs, x, hq, hx⟩ := hg
    obtain ⟨its, rv, p, hz⟩ := I.tuple hq
    obtain ⟨u, hu, ru⟩ := rv.get hx
    have hel : e < s.heap.objs.size := Heap.lt_size he
    have hil : it < s.heap.objs.size := by obtain ⟨_, q, _⟩ := hit; exact Heap.lt_size q
    have hlt : i < its.toArray.size := by
      have := (List.getElem?_eq_some_iff.mp hu).1
      simpa using this
    refine wpAny_pyNext_enum_itemD (Draws.tuple (show X.A.in1.handled = none from I.ok.hd hc) it a hai its.toArray) he ⟨hit, p⟩ hlt hne (by simp [hne, Ne.symm hae]) fun xv h' tk hP ho hst hT hsz hk => ?_
    have exv : xv = u := by
      have : its.toArray[i]? = some xv := hP
      rw [List.getElem?_toArray, hu] at this
      exact (Option.some.inj this).symm
    subst exv
    refine ⟨_, rfl, wpAny_letOwnedTupleGo_enum (s := { s with heap := h', toks := tk + 1 }) ho fun h'' he' sb => ?_⟩
    have hT2 : h''.get? s.heap.objs.size = some { cls := .type "tuple", data := .seq #[.int i tk, xv] } := (sb.2 _ (Nat.ne_of_gt hel)).trans hT
    have new : ObjOk X.prog X.w (upd H s.heap.objs.size (.tup [.int (i : Nat), x])) h'' s.heap.objs.size (.tup [.int (i : Nat), x]) :=
      ⟨by show 2 ≤ sizeLine; decide, [.int i tk, xv], .cons ⟨_, rfl⟩ (.cons ru .nil), ⟨_, hT2, rfl, _, rfl⟩⟩
    have I1 : Inv X pins σ (upd H s.heap.objs.size (.tup [.int (i : Nat), x])) { s with heap := h'', toks := tk + 1 } :=
      I.turnedNew (ch := [e, it]) (fun b ob hb q => (sb.2 b (fun z => hb (by simp [z]))).trans (hk b ob (fun z => hb (by simp [z])) (fun z => hb (by simp [z])) q)) hf (Nat.le_refl _) new
    refine ⟨.ref s.heap.objs.size, _, I1, rfl, ⟨_, x, rfl, I.hok.fresh (Nat.le_refl _), rfl, fun ys hy => by rw [I.tuple_inj hy hq]; exact hx⟩, ⟨⟨xv, ?_⟩, hst.1.at fun o q => (sb.2 it (Ne.symm hne)).trans q, hne, hae, hai⟩, fun b hb => ?_⟩
    · have e1 : ((i + 1 : Nat) : Int) = (i : Int) + 1 := by omega
      rw [e1]; exact he'
    · have hb' : b < s.heap.objs.size := by
        have e' : b = e ∨ b = it := by simpa using hb
        rcases e' with z | z
        · rw [z]; exact hel
        · rw [z]; exact hil
      rw [upd_ne (Nat.ne_of_lt hb')]
      exact (hf b hb).1
  done := by
    intro X hP hw hK hc i pins s σ H E I hf st hg
    subst hP hw hK
    obtain ⟨⟨old, he⟩, hit, hne, hae, hai⟩ := st
    obtain ⟨xs, hq, hx⟩ := hg
    obtain ⟨its, rv, p, hz⟩ := I.tuple hq
    obtain ⟨f0, f1, f2, f3, f4, f5⟩ := hf it (by simp)
    have hl := rv.length
    have ei : i = its.toArray.size := by rw [List.size_toArray]; omega
    rw [ei] at hit
    exact wpAny_pyNext_enum_endD (Draws.tuple (show X.A.in1.handled = none from I.ok.hd hc) it a hai its.toArray) he ⟨hit, p⟩ fun h' eb => ⟨rfl, I.turned (t' := s.toks) (fun b o hb q => eb b o hb q) f0 f1 f3 f4 f5⟩
  self := fun A i s Q E st h => let ⟨⟨_, he⟩, _⟩ := st; wpAny_pyIter_enum he h
def iEnumT (K : PySem.W.Frag) (ta : TA) : TI := fun σ H R => ta σ H fun vs H1 => ∃ a xs, vs = [.ref a] ∧ SqT K H1 a xs ∧ R (IteT K a) H1
theorem pi_enumT {X : Cx} {e : Expr} {ta : TA} {p pos tpos : Pos} {elts : List Expr} {kk : Nat} (hg : Gl X "enumerate") (hm : X.mg "enumerate" = none) (ha : PA X [e] ta) (hs : starEach [e] X.env = [(false, eval e X.env)]) :
    PI X (.Tuple elts kk tpos) (.Call (.Name "enumerate" p) [e] [] pos) (iEnumT X.K ta) := by
  refine ⟨fun pins s σ H R I h => ?_⟩
  refine Call_ (ld_blt I hg hm boot_enumerate (PyProof.Rows.callWith_type1 (thn (ha.run pos pins s σ H _ I h) fun us s1 ⟨vs, H1, I1, r1, q1⟩ => ?_) hs rfl))
  obtain ⟨a, xs, ex, hq, q⟩ := q1
  subst ex
  cases r1 with
  | cons r rr =>
    cases rr
    cases r
    obtain ⟨its, rv, p', hz⟩ := I1.tuple hq
    have hal : a < s1.heap.objs.size := p'.lt
    refine enum_begins1 (begins_tuple a its.toArray) p' fun h' he hit hsz hk => wpAny_pyIter_enum he ?_
    have I2 : Inv X pins σ H1 { s1 with heap := h' } := I1.kept (t' := s1.toks) hk
    refine ⟨s1.heap.objs.size + 1, [s1.heap.objs.size + 1, s1.heap.objs.size], _, _, H1, rfl, I2, turn_enumT a (s1.heap.objs.size + 1) s1.heap.objs.size, ⟨⟨.none, he⟩, ⟨_, hit, rfl, rfl⟩, Nat.succ_ne_self _, Nat.ne_of_lt (Nat.lt_succ_of_lt hal), Nat.ne_of_lt hal⟩, fun b hb => ?_, q⟩
    have e' : b = s1.heap.objs.size + 1 ∨ b = s1.heap.objs.size := by simpa using hb
    have hle : s1.heap.objs.size ≤ b := by
      rcases e' with z | z
      · rw [z]; exact Nat.le_add_right _ _
      · rw [z]; exact Nat.le_refl _
    exact I1.fpOk hle (I1.hok.fresh hle)
end MP

/-! text Mini7 -/
set_option Elab.async false
set_option linter.all false
set_option maxRecDepth 100000
set_option maxHeartbeats 4000000
namespace MP
open PySem PySem.Spec PyProof.Rows
open L2 hiding St
abbrev Sl := L2.St

/-! ### the slots -/
structure REnv (K : PySem.W.Frag) (H : Hp) (μ : List Addr) (ρ : Rho) (σ : Sl) : Prop where
  len : ρ.length = σ.length
  at_ : ∀ (i : Nat) (d : D), ρ[i]? = some (some d) → ∃ v, σ[i]? = some (some v) ∧ RV K H μ d v
section
variable {K : PySem.W.Frag} {H H' : Hp} {μ μ' : List Addr} {ρ : Rho} {σ : Sl}
theorem REnv.mono (r : REnv K H μ ρ σ) (S : Stp K μ H μ' H') : REnv K H' μ' ρ σ := ⟨r.len, fun i d e => let ⟨v, a, b⟩ := r.at_ i d e; ⟨v, a, b.mono S⟩⟩
theorem REnv.set (r : REnv K H μ ρ σ) {d : D} {v : V} (rv : RV K H μ d v) (i : Nat) : REnv K H μ (ρ.set i (some d)) (σ.set i (some v)) :=
  ⟨by rw [List.length_set, List.length_set]; exact r.len, fun j e he => by
    by_cases hj : i = j
    · subst hj
      by_cases hl : i < ρ.length
      · rw [List.getElem?_set_self hl] at he
        cases he
        exact ⟨v, by rw [List.getElem?_set_self (by rw [← r.len]; exact hl)], rv⟩
      · rw [List.getElem?_eq_none (by rw [List.length_set]; omega)] at he
        cases he
    · rw [List.getElem?_set_ne hj] at he ⊢
      exact r.at_ j e he⟩
/-- slots forgotten -/
def wipeR (ρ : Rho) : List Nat → Rho
  | [] => ρ
  | v :: vs => (wipeR ρ vs).set v none
theorem REnv.wipe (r : REnv K H μ ρ σ) : ∀ vs : List Nat, REnv K H μ (wipeR ρ vs) (L2.wipe σ vs)
  | [] => r
  | v :: vs => by
    have ih := REnv.wipe r vs
    refine ⟨by unfold wipeR L2.wipe; rw [List.length_set, List.length_set]; exact ih.len, fun j e he => ?_⟩
    unfold wipeR at he
    unfold L2.wipe
    by_cases hj : v = j
    · subst hj
      by_cases hl : v < (wipeR ρ vs).length
      · rw [List.getElem?_set_self hl] at he
        cases he
      · rw [List.getElem?_eq_none (by rw [List.length_set]; omega)] at he
        cases he
    · rw [List.getElem?_set_ne hj] at he ⊢
      exact ih.at_ j e he
end
/-- what is stored lies in these slots -/
structure Out (is : List Nat) (σ σ' : Sl) : Prop where
  len : σ'.length = σ.length
  out : ∀ j, j ∉ is → σ'[j]? = σ[j]?
theorem Out.refl (is : List Nat) (σ : Sl) : Out is σ σ := ⟨rfl, fun _ _ => rfl⟩
theorem Out.trans {is : List Nat} {σ σ1 σ2 : Sl} (a : Out is σ σ1) (b : Out is σ1 σ2) : Out is σ σ2 := ⟨b.len.trans a.len, fun j h => (b.out j h).trans (a.out j h)⟩
theorem Out.mono {is js : List Nat} {σ σ1 : Sl} (a : Out is σ σ1) (h : ∀ i ∈ is, i ∈ js) : Out js σ σ1 := ⟨a.len, fun j hj => a.out j fun z => hj (h j z)⟩
theorem wipe_len (σ : Sl) : ∀ vs : List Nat, (wipe σ vs).length = σ.length := fun vs => wipe_length σ vs
theorem wipe_in (σ : Sl) : ∀ {vs : List Nat} {j : Nat}, j ∈ vs → (wipe σ vs)[j]? = if j < σ.length then some none else none
  | v :: vs, j, h => by
    unfold wipe
    by_cases hj : v = j
    · subst hj
      by_cases hl : v < σ.length
      · rw [List.getElem?_set_self (by rw [wipe_len]; exact hl), if_pos hl]
      · rw [List.getElem?_eq_none (by rw [List.length_set, wipe_len]; omega), if_neg hl]
    · rw [List.getElem?_set_ne hj]
      rcases List.mem_cons.mp h with e | h
      · exact absurd e.symm hj
      · exact wipe_in σ h
theorem Out.wipe {vs : List Nat} {σ σ' : Sl} (o : Out vs σ σ') : wipe σ' vs = wipe σ vs := by
  refine List.ext_getElem? fun j => ?_
  by_cases h : j ∈ vs
  · rw [wipe_in σ' h, wipe_in σ h, o.len]
  · rw [wipe_out h, wipe_out h, o.out j h]

/-! ### what is run -/
abbrev EM := Rho → Hs → Option (D × Hs)
abbrev BM := Rho → Hs → Option (Bool × Hs)
abbrev AM := Rho → Hs → Option (List D × Hs)
abbrev PM := Rho → Hs → Option (Option Int × Hs)
abbrev Gd := Option (Nat × List D)
abbrev IM := Rho → Hs → Option ((List D × Gd) × Hs)
abbrev GM := D → Rho → Hs → Option (Rho × Hs)
abbrev GsM := List D → Rho → Hs → Option (Rho × Hs)
inductive Fl where
  | nx | bk | ct | rt (d : D)
abbrev SM := Rho → Hs → Option (Fl × Rho × Hs)

def tEm (K : PySem.W.Frag) (m : EM) : TE := fun σ H Q => ∃ μ ρ h d h', Rel K μ h H ∧ REnv K H μ ρ σ ∧ m ρ h = some (d, h') ∧ After K μ H d h' Q
def tBm (K : PySem.W.Frag) (m : BM) : TT := fun σ H Q => ∃ μ ρ h b h', Rel K μ h H ∧ REnv K H μ ρ σ ∧ m ρ h = some (b, h') ∧ ∀ μ' H', Rel K μ' h' H' → Stp K μ H μ' H' → Q b H'
def tAm (K : PySem.W.Frag) (m : AM) : TA := fun σ H Q => ∃ μ ρ h ds h', Rel K μ h H ∧ REnv K H μ ρ σ ∧ m ρ h = some (ds, h') ∧ ∀ μ' H' vs, Rel K μ' h' H' → Stp K μ H μ' H' → RVs K H' μ' ds vs → Q vs H'
def tPm (K : PySem.W.Frag) (m : PM) : TO := fun σ H Q => ∃ μ ρ h o h', Rel K μ h H ∧ REnv K H μ ρ σ ∧ m ρ h = some (o, h') ∧ ∀ μ' H', Rel K μ' h' H' → Stp K μ H μ' H' → Q o H'
def tGm (K : PySem.W.Frag) (is : List Nat) (m : GM) : TG := fun v σ H Q => ∃ μ ρ h d ρ' h', Rel K μ h H ∧ REnv K H μ ρ σ ∧ RV K H μ d v ∧ m d ρ h = some (ρ', h') ∧
  ∀ μ' H' σ', Rel K μ' h' H' → Stp K μ H μ' H' → REnv K H' μ' ρ' σ' → Out is σ σ' → Q σ' H'
def tGsm (K : PySem.W.Frag) (is : List Nat) (m : GsM) : TGs := fun vs σ H Q => ∃ μ ρ h ds ρ' h', Rel K μ h H ∧ REnv K H μ ρ σ ∧ RVs K H μ ds vs ∧ m ds ρ h = some (ρ', h') ∧
  ∀ μ' H' σ', Rel K μ' h' H' → Stp K μ H μ' H' → REnv K H' μ' ρ' σ' → Out is σ σ' → Q σ' H'
def EndS (K : PySem.W.Frag) (μ' : List Addr) (H' : Hp) (ρ' : Rho) (D : Ends) : Fl → Prop
  | .nx => ∀ σ', REnv K H' μ' ρ' σ' → D.nx σ' H'
  | .bk => ∀ σ', REnv K H' μ' ρ' σ' → D.bk σ' H'
  | .ct => ∀ σ', REnv K H' μ' ρ' σ' → D.ct σ' H'
  | .rt d => ∀ v, RV K H' μ' d v → D.rt v H'
def tSm (K : PySem.W.Frag) (m : SM) : TS := fun D σ H => ∃ μ ρ h f ρ' h', Rel K μ h H ∧ REnv K H μ ρ σ ∧ m ρ h = some (f, ρ', h') ∧ ∀ μ' H', Rel K μ' h' H' → Stp K μ H μ' H' → EndS K μ' H' ρ' D f

/-! ### weakening -/
section
variable {X : Cx}
theorem _root_.L2.PE.imp {e : Expr} {t t' : TE} (p : PE X e t) (i : ∀ σ H Q, t' σ H Q → t σ H Q) : PE X e t' := ⟨fun pins s σ H Q I q => p.run pins s σ H Q I (i σ H Q q)⟩
theorem _root_.L2.PT.imp {e : Expr} {t t' : TT} (p : PT X e t) (i : ∀ σ H Q, t' σ H Q → t σ H Q) : PT X e t' := ⟨fun pins s σ H Q I q => p.run pins s σ H Q I (i σ H Q q)⟩
theorem _root_.L2.PW.imp {e : Expr} {t t' : TT} (p : PW X e t) (i : ∀ σ H Q, t' σ H Q → t σ H Q) : PW X e t' := ⟨fun w pins s σ H Q I q => p.run w pins s σ H Q I (i σ H Q q)⟩
theorem _root_.L2.PTs.imp {e : List Expr} {t t' : TT} (p : PTs X e t) (i : ∀ σ H Q, t' σ H Q → t σ H Q) : PTs X e t' := ⟨fun pins s σ H Q I q => p.run pins s σ H Q I (i σ H Q q)⟩
theorem _root_.L2.PA.imp {e : List Expr} {t t' : TA} (p : PA X e t) (i : ∀ σ H Q, t' σ H Q → t σ H Q) : PA X e t' := ⟨fun pos pins s σ H Q I q => p.run pos pins s σ H Q I (i σ H Q q)⟩
theorem _root_.L2.PO.imp {e : Option Expr} {t t' : TO} (p : PO X e t) (i : ∀ σ H Q, t' σ H Q → t σ H Q) : PO X e t' := ⟨fun pins s σ H Q I q => p.run pins s σ H Q I (i σ H Q q)⟩
theorem _root_.L2.PS.imp {e : Stmt} {t t' : TS} (p : PS X e t) (i : ∀ D σ H, t' D σ H → t D σ H) : PS X e t' := ⟨fun pins s σ H D I q => p.run pins s σ H D I (i D σ H q)⟩
theorem _root_.L2.PSs.imp {e : List Stmt} {t t' : TS} (p : PSs X e t) (i : ∀ D σ H, t' D σ H → t D σ H) : PSs X e t' := ⟨fun pins s σ H D I q => p.run pins s σ H D I (i D σ H q)⟩
theorem _root_.L2.PG.imp {e : Expr} {t t' : TG} (p : PG X e t) (i : ∀ v σ H Q, t' v σ H Q → t v σ H Q) : PG X e t' := ⟨fun pins s σ H v u Q I r q => p.run pins s σ H v u Q I r (i v σ H Q q)⟩
theorem _root_.L2.PGs.imp {e : List Expr} {t t' : TGs} (p : PGs X e t) (i : ∀ v σ H Q, t' v σ H Q → t v σ H Q) : PGs X e t' := ⟨fun pins s σ H v u Q I r q => p.run pins s σ H v u Q I r (i v σ H Q q)⟩
theorem _root_.L2.PI.imp {tg e : Expr} {t t' : TI} (p : PI X tg e t) (i : ∀ σ H Q, t' σ H Q → t σ H Q) : PI X tg e t' := ⟨fun pins s σ H Q I q => p.run pins s σ H Q I (i σ H Q q)⟩
end

/-! ### expressions -/
def mNo : EM := fun _ _ => none
def mC (d : D) : EM := fun _ h => some (d, h)
def mVar (i : Nat) : EM := fun ρ h => match ρ[i]? with
  | some (some d) => some (d, h)
  | _ => none
def mOp2 (g : O2) (ma mb : EM) : EM := fun ρ h => (ma ρ h).bind fun r1 => (mb ρ r1.2).bind fun r2 => g r1.1 r2.1 r2.2
def mOp1 (g : O1) (ma : EM) : EM := fun ρ h => (ma ρ h).bind fun r1 => g r1.1 r1.2
def negO : O1 := fun x h => match x with
  | .int i => some (.int (-i), h)
  | _ => none
def aNil : AM := fun _ h => some ([], h)
def aCons (me : EM) (ma : AM) : AM := fun ρ h => (me ρ h).bind fun r1 => (ma ρ r1.2).bind fun r2 => some (r1.1 :: r2.1, r2.2)
def mCallN (g : ON) (ma : AM) : EM := fun ρ h => (ma ρ h).bind fun r => g r.1 r.2
def mCallF (n : Nat) (g : ON) (ma : AM) : EM := fun ρ h => (ma ρ h).bind fun r => if r.1.length = n then g r.1 r.2 else none
def isLst (h : Hs) : D → Bool
  | .loc n => match h[n]? with
    | some _ => true
    | none => false
  | _ => false
def mMeth (ty : Hs → D → Bool) (g : OM) (mo : EM) (ma : AM) : EM := fun ρ h => (mo ρ h).bind fun r1 => if ty r1.2 r1.1 = true then (ma ρ r1.2).bind fun r2 => g r1.1 r2.1 r2.2 else none
def mTup (ma : AM) : EM := fun ρ h => (ma ρ h).bind fun r => if r.1.length ≤ sizeLine then some (.tup r.1, r.2) else none
def mLst (ma : AM) : EM := fun ρ h => (ma ρ h).bind fun r => if r.1.length ≤ sizeLine then some (.loc r.2.length, r.2 ++ [.lst r.1]) else none
def mIf (mt : BM) (ma mb : EM) : EM := fun ρ h => (mt ρ h).bind fun r => if r.1 = true then ma ρ r.2 else mb ρ r.2
def mAndV (ma mb : EM) : EM := fun ρ h => (ma ρ h).bind fun r => match truD r.2 r.1 with
  | some true => mb ρ r.2
  | some false => some r
  | none => none
def mOrV (ma mb : EM) : EM := fun ρ h => (ma ρ h).bind fun r => match truD r.2 r.1 with
  | some true => some r
  | some false => mb ρ r.2
  | none => none
def mNotV (ma : EM) : EM := fun ρ h => (ma ρ h).bind fun r => match truD r.2 r.1 with
  | some b => some (.bl (!b), r.2)
  | none => none
def mChain (g g' : O2) (ma mb mc : EM) : EM := fun ρ h => (ma ρ h).bind fun r1 => (mb ρ r1.2).bind fun r2 => (g r1.1 r2.1 r2.2).bind fun r3 => match r3.1 with
  | .bl true => (mc ρ r3.2).bind fun r4 => g' r2.1 r4.1 r4.2
  | .bl false => some (.bl false, r3.2)
  | _ => none
def pNo : PM := fun _ h => some (none, h)
def pInt (me : EM) : PM := fun ρ h => (me ρ h).bind fun r => match r.1 with
  | .int i => some (some i, r.2)
  | _ => none
def mSl (ma : EM) (ml mu : PM) : EM := fun ρ h => (ma ρ h).bind fun r1 => (ml ρ r1.2).bind fun r2 => (mu ρ r2.2).bind fun r3 => slO r1.1 r2.1 r3.1 r3.2
/-! tests -/
def bTru (ma : EM) : BM := fun ρ h => (ma ρ h).bind fun r => (truD r.2 r.1).map fun b => (b, r.2)
def bBool (ma : EM) : BM := fun ρ h => (ma ρ h).bind fun r => match r.1 with
  | .bl b => some (b, r.2)
  | _ => none
def bNot (ma : BM) : BM := fun ρ h => (ma ρ h).map fun r => (!r.1, r.2)
def bAnd (ma mb : BM) : BM := fun ρ h => (ma ρ h).bind fun r => if r.1 = true then mb ρ r.2 else some (false, r.2)
def bOr (ma mb : BM) : BM := fun ρ h => (ma ρ h).bind fun r => if r.1 = true then some (true, r.2) else mb ρ r.2
def bYes : BM := fun _ h => some (true, h)
def bNo : BM := fun _ _ => none

theorem bind_some {α β : Type} {o : Option α} {f : α → Option β} {y : β} (e : o.bind f = some y) : ∃ x, o = some x ∧ f x = some y := Option.bind_eq_some_iff.mp e

section
variable {X : Cx} {a b c e : Expr} {ma mb mc me : EM} {pos : Pos}
theorem pe_no : PE X e (tEm X.K mNo) := ⟨fun pins s σ H Q I ⟨_, _, _, _, _, _, _, z, _⟩ => nomatch z⟩
theorem pe_C {d : D} {v : V} (h : PE X e (tC v)) (r : ∀ H μ, RV X.K H μ d v) : PE X e (tEm X.K (mC d)) := h.imp fun σ H Q ⟨μ, ρ, h, d, h', R, N, e, k⟩ => by
  cases e
  exact k.val R (r H μ)
theorem pe_V {i : Nat} (h : PE X e (tVar i)) : PE X e (tEm X.K (mVar i)) := h.imp fun σ H Q ⟨μ, ρ, h, d, h', R, N, e, k⟩ => by
  unfold mVar at e
  split at e
  · rename_i d0 e0
    cases e
    obtain ⟨v, e1, r⟩ := N.at_ i _ e0
    exact ⟨v, e1, k.val R r⟩
  · cases e
theorem pe_2 {op : Operator} {g : O2} (ho : OpR X (binaryOp op) (g2 X.K g)) (ha : PE X a (tEm X.K ma)) (hb : PE X b (tEm X.K mb)) : PE X (.BinOp a op b pos) (tEm X.K (mOp2 g ma mb)) :=
  (pe_op ho ha hb).imp fun σ H Q ⟨μ, ρ, h, d, h', R, N, e, k⟩ => by
    obtain ⟨⟨x, h1⟩, e1, e⟩ := bind_some e
    obtain ⟨⟨y, h2⟩, e2, e⟩ := bind_some e
    exact ⟨μ, ρ, h, x, h1, R, N, e1, fun μ1 H1 vx R1 S1 rx => ⟨μ1, ρ, h1, y, h2, R1, N.mono S1, e2, fun μ2 H2 vy R2 S2 ry => ⟨μ2, h2, x, y, d, h', R2, rx.mono S2, ry, e, fun μ3 H3 v R3 S3 rv => k μ3 H3 v R3 (S1.trans (S2.trans S3)) rv⟩⟩⟩
theorem pe_cmp2 {op : CmpOp} {g : O2} (ho : OpR X (compareOp op) (g2 X.K g)) (ha : PE X a (tEm X.K ma)) (hb : PE X b (tEm X.K mb)) (hm : behindInMarks op b = false) : PE X (.Compare a [op] [b] pos) (tEm X.K (mOp2 g ma mb)) :=
  (pe_cmpR ho ha hb hm).imp fun σ H Q ⟨μ, ρ, h, d, h', R, N, e, k⟩ => by
    obtain ⟨⟨x, h1⟩, e1, e⟩ := bind_some e
    obtain ⟨⟨y, h2⟩, e2, e⟩ := bind_some e
    exact ⟨μ, ρ, h, x, h1, R, N, e1, fun μ1 H1 vx R1 S1 rx => ⟨μ1, ρ, h1, y, h2, R1, N.mono S1, e2, fun μ2 H2 vy R2 S2 ry => ⟨μ2, h2, x, y, d, h', R2, rx.mono S2, ry, e, fun μ3 H3 v R3 S3 rv => k μ3 H3 v R3 (S1.trans (S2.trans S3)) rv⟩⟩⟩
theorem chain_to {g g' : O2} {σ : Sl} {H : Hp} {Q : VK} (t : tEm X.K (mChain g g' ma mb mc) σ H Q) : tChain (g2 X.K g) (g2 X.K g') (tEm X.K ma) (tEm X.K mb) (tEm X.K mc) σ H Q := by
  obtain ⟨μ, ρ, h, d, h', R, N, e, k⟩ := t
  obtain ⟨⟨x, h1⟩, e1, e⟩ := bind_some e
  obtain ⟨⟨y, h2⟩, e2, e⟩ := bind_some e
  obtain ⟨⟨z, h3⟩, e3, e⟩ := bind_some e
  refine ⟨μ, ρ, h, x, h1, R, N, e1, fun μ1 H1 vx R1 S1 rx => ⟨μ1, ρ, h1, y, h2, R1, N.mono S1, e2, fun μ2 H2 vy R2 S2 ry => ⟨μ2, h2, x, y, z, h3, R2, rx.mono S2, ry, e3, fun μ3 H3 vz R3 S3 rz => ?_⟩⟩⟩
  split at e
  · rename_i ez
    have ez' : z = .bl true := ez
    subst ez'
    cases rz
    obtain ⟨⟨w, h4⟩, e4, e⟩ := bind_some e
    exact ⟨true, rfl, ⟨μ3, ρ, h3, w, h4, R3, (N.mono S1).mono (S2.trans S3), e4, fun μ4 H4 vw R4 S4 rw' => ⟨μ4, h4, y, w, d, h', R4, (ry.mono S3).mono S4, rw', e, fun μ5 H5 v R5 S5 rv => k μ5 H5 v R5 (S1.trans (S2.trans (S3.trans (S4.trans S5)))) rv⟩⟩⟩
  · rename_i ez
    have ez' : z = .bl false := ez
    subst ez'
    cases rz
    cases e
    exact ⟨false, rfl, k μ3 H3 _ R3 (S1.trans (S2.trans S3)) (.bl false)⟩
  · cases e
theorem pe_chain2 {op op' : CmpOp} {g g' : O2} (ho : OpR X (compareOp op) (g2 X.K g)) (ho' : OpR X (compareOp op') (g2 X.K g')) (ha : PE X a (tEm X.K ma)) (hb : PE X b (tEm X.K mb)) (hc : PE X c (tEm X.K mc))
    (hm : lastMarks [op, op'] [b, c] = false) : PE X (.Compare a [op, op'] [b, c] pos) (tEm X.K (mChain g g' ma mb mc)) := (pe_chain ho ho' ha hb hc hm).imp fun σ H Q t => chain_to t
theorem pe_ix2 (ha : PE X a (tEm X.K ma)) (hb : PE X b (tEm X.K mb)) (hs : PlainIx b) : PE X (.Subscript a b pos) (tEm X.K (mOp2 ixO ma mb)) :=
  (pe_ix ix_ok ha hb hs).imp fun σ H Q ⟨μ, ρ, h, d, h', R, N, e, k⟩ => by
    obtain ⟨⟨x, h1⟩, e1, e⟩ := bind_some e
    obtain ⟨⟨y, h2⟩, e2, e⟩ := bind_some e
    exact ⟨μ, ρ, h, x, h1, R, N, e1, fun μ1 H1 vx R1 S1 rx => ⟨μ1, ρ, h1, y, h2, R1, N.mono S1, e2, fun μ2 H2 vy R2 S2 ry => ⟨μ2, h2, x, y, d, h', R2, rx.mono S2, ry, e, fun μ3 H3 v R3 S3 rv => k μ3 H3 v R3 (S1.trans (S2.trans S3)) rv⟩⟩⟩
theorem pe_neg2 (ha : PE X a (tEm X.K ma)) : PE X (.UnaryOp .USub a pos) (tEm X.K (mOp1 negO ma)) := (pe_un un_neg ha).imp fun σ H Q ⟨μ, ρ, h, d, h', R, N, e, k⟩ => by
  obtain ⟨⟨x, h1⟩, e1, e⟩ := bind_some e
  refine ⟨μ, ρ, h, x, h1, R, N, e1, fun μ1 H1 vx R1 S1 rx => ?_⟩
  unfold negO at e
  split at e
  · rename_i i hi
    have hi' : x = .int i := hi
    subst hi'
    cases e
    cases rx
    exact ⟨i, rfl, k μ1 H1 _ R1 S1 (.int _)⟩
  · cases e
theorem pe_not2 (ha : PE X a (tEm X.K ma)) : PE X (.UnaryOp .Not a pos) (tEm X.K (mNotV ma)) := (pe_notT ha).imp fun σ H Q ⟨μ, ρ, h, d, h', R, N, e, k⟩ => by
  obtain ⟨⟨x, h1⟩, e1, e⟩ := bind_some e
  refine ⟨μ, ρ, h, x, h1, R, N, e1, fun μ1 H1 vx R1 S1 rx => ?_⟩
  split at e
  · rename_i b eb
    cases e
    exact ⟨b, truD_ok R1 rx eb, k μ1 H1 _ R1 S1 (.bl _)⟩
  · cases e
theorem pe_and2 {rest : List Expr} (ha : PE X a (tEm X.K ma)) (hb : PE X (.BoolOp .And (b :: rest) pos) (tEm X.K mb)) : PE X (.BoolOp .And (a :: b :: rest) pos) (tEm X.K (mAndV ma mb)) := (pe_andT ha hb).imp fun σ H Q ⟨μ, ρ, h, d, h', R, N, e, k⟩ => by
  obtain ⟨⟨x, h1⟩, e1, e⟩ := bind_some e
  refine ⟨μ, ρ, h, x, h1, R, N, e1, fun μ1 H1 vx R1 S1 rx => ?_⟩
  split at e
  · rename_i eb
    refine ⟨true, truD_ok R1 rx eb, ?_⟩
    rw [if_pos rfl]
    exact ⟨μ1, ρ, h1, d, h', R1, N.mono S1, e, fun μ2 H2 v R2 S2 rv => k μ2 H2 v R2 (S1.trans S2) rv⟩
  · rename_i eb
    cases e
    refine ⟨false, truD_ok R1 rx eb, ?_⟩
    rw [if_neg (by decide)]
    exact k μ1 H1 _ R1 S1 rx
  · cases e
theorem pe_or2 {rest : List Expr} (ha : PE X a (tEm X.K ma)) (hb : PE X (.BoolOp .Or (b :: rest) pos) (tEm X.K mb)) : PE X (.BoolOp .Or (a :: b :: rest) pos) (tEm X.K (mOrV ma mb)) := (pe_orT ha hb).imp fun σ H Q ⟨μ, ρ, h, d, h', R, N, e, k⟩ => by
  obtain ⟨⟨x, h1⟩, e1, e⟩ := bind_some e
  refine ⟨μ, ρ, h, x, h1, R, N, e1, fun μ1 H1 vx R1 S1 rx => ?_⟩
  split at e
  · rename_i eb
    cases e
    refine ⟨true, truD_ok R1 rx eb, ?_⟩
    rw [if_pos rfl]
    exact k μ1 H1 _ R1 S1 rx
  · rename_i eb
    refine ⟨false, truD_ok R1 rx eb, ?_⟩
    rw [if_neg (by decide)]
    exact ⟨μ1, ρ, h1, d, h', R1, N.mono S1, e, fun μ2 H2 v R2 S2 rv => k μ2 H2 v R2 (S1.trans S2) rv⟩
  · cases e
theorem pe_if2 {t : Expr} {mt : BM} (ht : PT X t (tBm X.K mt)) (ha : PE X a (tEm X.K ma)) (hb : PE X b (tEm X.K mb)) : PE X (.IfExp t a b pos) (tEm X.K (mIf mt ma mb)) := (pe_ifExp ht ha hb).imp fun σ H Q ⟨μ, ρ, h, d, h', R, N, e, k⟩ => by
  obtain ⟨⟨x, h1⟩, e1, e⟩ := bind_some e
  refine ⟨μ, ρ, h, x, h1, R, N, e1, fun μ1 H1 R1 S1 => ?_⟩
  cases x with
  | true => exact ⟨μ1, ρ, h1, d, h', R1, N.mono S1, e, fun μ2 H2 v R2 S2 rv => k μ2 H2 v R2 (S1.trans S2) rv⟩
  | false => exact ⟨μ1, ρ, h1, d, h', R1, N.mono S1, e, fun μ2 H2 v R2 S2 rv => k μ2 H2 v R2 (S1.trans S2) rv⟩
/-! arguments -/
variable {es : List Expr} {mas : AM}
theorem pa_0 : PA X [] (tAm X.K aNil) := pa_nil.imp fun σ H Q ⟨μ, ρ, h, ds, h', R, N, e, k⟩ => by
  cases e
  exact k μ H [] R (Stp.refl ..) .nil
theorem pa_1 (he : PE X e (tEm X.K me)) (hr : PA X es (tAm X.K mas)) (hs : starEach (e :: es) X.env = (false, eval e X.env) :: starEach es X.env) : PA X (e :: es) (tAm X.K (aCons me mas)) := (pa_cons he hr hs).imp fun σ H Q ⟨μ, ρ, h, ds, h', R, N, e, k⟩ => by
  obtain ⟨⟨x, h1⟩, e1, e⟩ := bind_some e
  obtain ⟨⟨ys, h2⟩, e2, e⟩ := bind_some e
  cases e
  exact ⟨μ, ρ, h, x, h1, R, N, e1, fun μ1 H1 vx R1 S1 rx => ⟨μ1, ρ, h1, ys, h2, R1, N.mono S1, e2, fun μ2 H2 vs R2 S2 rs => k μ2 H2 (vx :: vs) R2 (S1.trans S2) (.cons (rx.mono S2) rs)⟩⟩
theorem pe_tup2 {x1} (h : PA X es (tAm X.K mas)) : PE X (.Tuple es x1 pos) (tEm X.K (mTup mas)) := (pe_tup h).imp fun σ H Q ⟨μ, ρ, h, d, h', R, N, e, k⟩ => by
  obtain ⟨⟨ds, h1⟩, e1, e⟩ := bind_some e
  refine ⟨μ, ρ, h, ds, h1, R, N, e1, fun μ1 H1 vs R1 S1 rs => ?_⟩
  split at e
  · rename_i hz
    cases e
    exact ⟨by rw [← rs.length]; exact hz, After.newT (fun μ2 H2 v R2 S2 rv => k μ2 H2 v R2 (S1.trans S2) rv) R1 rs⟩
  · cases e
theorem pe_lst2 (h : PA X es (tAm X.K mas)) : PE X (.List es pos) (tEm X.K (mLst mas)) := (pe_lst h).imp fun σ H Q ⟨μ, ρ, h, d, h', R, N, e, k⟩ => by
  obtain ⟨⟨ds, h1⟩, e1, e⟩ := bind_some e
  refine ⟨μ, ρ, h, ds, h1, R, N, e1, fun μ1 H1 vs R1 S1 rs => ?_⟩
  split at e
  · rename_i hz
    cases e
    exact ⟨by rw [← rs.length]; exact hz, After.newL (fun μ2 H2 v R2 S2 rv => k μ2 H2 v R2 (S1.trans S2) rv) R1 rs⟩
  · cases e
theorem cb_to {g : ON} {σ : Sl} {H : Hp} {Q : VK} (t : tEm X.K (mCallN g mas) σ H Q) : tCB (gN X.K g) (tAm X.K mas) σ H Q := by
  obtain ⟨μ, ρ, h, d, h', R, N, e, k⟩ := t
  obtain ⟨⟨ds, h1⟩, e1, e⟩ := bind_some e
  exact ⟨μ, ρ, h, ds, h1, R, N, e1, fun μ1 H1 vs R1 S1 rs => ⟨μ1, h1, ds, d, h', R1, rs, e, fun μ2 H2 v R2 S2 rv => k μ2 H2 v R2 (S1.trans S2) rv⟩⟩
theorem pe_meth2 {T id : String} {g : OM} {ty : Hs → D → Bool} {o : Expr} {mo : EM} {name : Str} {apos cpos : Pos} (pa : PlainAttrs T) (slot : Slot T name id) (hty : typeOf (.builtin id) = pure (.type "method_descriptor")) (hm : MtR X id (gM X.K g))
    (htv : ∀ μ h H x v, Rel X.K μ h H → RV X.K H μ x v → ty h x = true → tyV X.K T v H)
    (ho : PE X o (tEm X.K mo)) (ha : PA X (e :: es) (tAm X.K mas)) (hbase : attributeBase o name X.env (eval o X.env) = eval o X.env)
    (hfew : ((backTo cpos (starEach (e :: es) X.env)).all (fun x => !x.1) && (backToKw cpos (keywordEach [] X.env)).all (fun x => x.1.isSome)
      && decide ((e :: es).length + ([] : List Keyword).length + (if ([] : List Keyword).isEmpty then 0 else 1) < 30)) = true)
    (hline : (apos.endLine == cpos.line) = true) (hs : starEach (e :: es) X.env = (false, eval e X.env) :: starEach es X.env) (hplain : (backTo cpos (starEach es X.env)).any (·.1) = false) :
    PE X (.Call (.Attribute o name apos) (e :: es) [] cpos) (tEm X.K (mMeth ty g mo mas)) :=
  (pe_bm pa slot hty hm ho ha hbase hfew hline hs hplain).imp fun σ H Q ⟨μ, ρ, h, d, h', R, N, e, k⟩ => by
    obtain ⟨⟨x, h1⟩, e1, e⟩ := bind_some e
    split at e
    · rename_i hx
      obtain ⟨⟨ds, h2⟩, e2, e⟩ := bind_some e
      exact ⟨μ, ρ, h, x, h1, R, N, e1, fun μ1 H1 vx R1 S1 rx => ⟨htv μ1 h1 H1 x vx R1 rx hx, ⟨μ1, ρ, h1, ds, h2, R1, N.mono S1, e2, fun μ2 H2 vs R2 S2 rs => ⟨μ2, h2, x, ds, d, h', R2, rx.mono S2, rs, e, fun μ3 H3 v R3 S3 rv => k μ3 H3 v R3 (S1.trans (S2.trans S3)) rv⟩⟩⟩⟩
    · cases e
theorem pe_meth20 {T id : String} {g : OM} {ty : Hs → D → Bool} {o : Expr} {mo : EM} {name : Str} {apos cpos : Pos} (pa : PlainAttrs T) (slot : Slot T name id) (hty : typeOf (.builtin id) = pure (.type "method_descriptor")) (hm : MtR X id (gM X.K g))
    (htv : ∀ μ h H x v, Rel X.K μ h H → RV X.K H μ x v → ty h x = true → tyV X.K T v H)
    (ho : PE X o (tEm X.K mo)) (hbase : attributeBase o name X.env (eval o X.env) = eval o X.env) (hline : (apos.endLine == cpos.line) = true) :
    PE X (.Call (.Attribute o name apos) [] [] cpos) (tEm X.K (mMeth ty g mo aNil)) :=
  (pe_bm0 pa slot hty hm ho hbase hline).imp fun σ H Q ⟨μ, ρ, h, d, h', R, N, e, k⟩ => by
    obtain ⟨⟨x, h1⟩, e1, e⟩ := bind_some e
    split at e
    · rename_i hx
      obtain ⟨⟨ds, h2⟩, e2, e⟩ := bind_some e
      cases e2
      exact ⟨μ, ρ, h, x, h1, R, N, e1, fun μ1 H1 vx R1 S1 rx => ⟨htv μ1 h1 H1 x vx R1 rx hx, ⟨μ1, h1, x, [], d, h', R1, rx, .nil, e, fun μ3 H3 v R3 S3 rv => k μ3 H3 v R3 (S1.trans S3) rv⟩⟩⟩
    · cases e
theorem isLst_ok {K : PySem.W.Frag} : ∀ μ h H x v, Rel K μ h H → RV K H μ x v → isLst h x = true → tyV K "list" v H := by
  intro μ h H x v R r e
  unfold isLst at e
  split at e
  · rename_i n
    obtain ⟨a, rfl, ha⟩ := r.loc_at
    split at e
    · rename_i o ho
      have : ∃ xs, itemsAt h n = some xs := by
        unfold itemsAt
        rw [ho]
        cases o with
        | lst xs => exact ⟨_, rfl⟩
        | frz ns => exact ⟨_, rfl⟩
      obtain ⟨xs, hx⟩ := this
      obtain ⟨vs, t, _⟩ := itemsAt_ok R hx ha
      exact .inl ⟨rfl, vs, t⟩
    · cases e
  · cases e
theorem po_0 : PO X none (tPm X.K pNo) := po_none.imp fun σ H Q ⟨μ, ρ, h, o, h', R, N, e, k⟩ => by
  cases e
  exact k μ H R (Stp.refl ..)
theorem po_1 (he : PE X e (tEm X.K me)) : PO X (some e) (tPm X.K (pInt me)) := (po_some he).imp fun σ H Q ⟨μ, ρ, h, o, h', R, N, e, k⟩ => by
  obtain ⟨⟨x, h1⟩, e1, e⟩ := bind_some e
  refine ⟨μ, ρ, h, x, h1, R, N, e1, fun μ1 H1 vx R1 S1 rx => ?_⟩
  split at e
  · rename_i i hi
    have hi' : x = .int i := hi
    subst hi'
    cases e
    cases rx
    exact ⟨i, rfl, k μ1 H1 R1 S1⟩
  · cases e
theorem pe_sl2 {lo hi : Option Expr} {ml mu : PM} {p2 : Pos} (ha : PE X a (tEm X.K ma)) (hl : PO X lo (tPm X.K ml)) (hu : PO X hi (tPm X.K mu)) : PE X (.Subscript a (.Slice lo hi none p2) pos) (tEm X.K (mSl ma ml mu)) :=
  (pe_slice sl_ok ha hl hu).imp fun σ H Q ⟨μ, ρ, h, d, h', R, N, e, k⟩ => by
    obtain ⟨⟨x, h1⟩, e1, e⟩ := bind_some e
    obtain ⟨⟨l, h2⟩, e2, e⟩ := bind_some e
    obtain ⟨⟨u, h3⟩, e3, e⟩ := bind_some e
    exact ⟨μ, ρ, h, x, h1, R, N, e1, fun μ1 H1 vx R1 S1 rx => ⟨μ1, ρ, h1, l, h2, R1, N.mono S1, e2, fun μ2 H2 R2 S2 => ⟨μ2, ρ, h2, u, h3, R2, (N.mono S1).mono S2, e3, fun μ3 H3 R3 S3 =>
      ⟨μ3, h3, x, d, h', R3, (rx.mono S2).mono S3, e, fun μ4 H4 v R4 S4 rv => k μ4 H4 v R4 (S1.trans (S2.trans (S3.trans S4))) rv⟩⟩⟩⟩
/-! tests -/
theorem pt_tru (ha : PE X a (tEm X.K ma)) (he : ∀ whole, isTrue a X.env whole = (do let v ← whole; standAt a.pos; holding [v] (truthy v))) : PT X a (tBm X.K (bTru ma)) := (pt_truth ha he).imp fun σ H Q ⟨μ, ρ, h, d, h', R, N, e, k⟩ => by
  obtain ⟨⟨x, h1⟩, e1, e⟩ := bind_some e
  refine ⟨μ, ρ, h, x, h1, R, N, e1, fun μ1 H1 vx R1 S1 rx => ?_⟩
  cases q : truD h1 x with
  | none => rw [show truD (x, h1).2 (x, h1).1 = none from q] at e; cases e
  | some b =>
    rw [show truD (x, h1).2 (x, h1).1 = some b from q] at e
    cases e
    exact ⟨d, truD_ok R1 rx q, k μ1 H1 R1 S1⟩
theorem bBool_to {σ : Sl} {H : Hp} {Q : Bool → Hp → Prop} {t : TE} (i : ∀ Q, tEm X.K ma σ H Q → t σ H Q) (h : tBm X.K (bBool ma) σ H Q) : tTest t σ H Q := by
  obtain ⟨μ, ρ, h, d, h', R, N, e, k⟩ := h
  obtain ⟨⟨x, h1⟩, e1, e⟩ := bind_some e
  refine i _ ⟨μ, ρ, h, x, h1, R, N, e1, fun μ1 H1 vx R1 S1 rx => ?_⟩
  split at e
  · rename_i b hb
    have hb' : x = .bl b := hb
    subst hb'
    cases e
    cases rx
    exact ⟨_, rfl, k μ1 H1 R1 S1⟩
  · cases e
theorem op2_to {g : O2} {σ : Sl} {H : Hp} {Q : VK} (t : tEm X.K (mOp2 g ma mb) σ H Q) : tOp (g2 X.K g) (tEm X.K ma) (tEm X.K mb) σ H Q := by
  obtain ⟨μ, ρ, h, d, h', R, N, e, k⟩ := t
  obtain ⟨⟨x, h1⟩, e1, e⟩ := bind_some e
  obtain ⟨⟨y, h2⟩, e2, e⟩ := bind_some e
  exact ⟨μ, ρ, h, x, h1, R, N, e1, fun μ1 H1 vx R1 S1 rx => ⟨μ1, ρ, h1, y, h2, R1, N.mono S1, e2, fun μ2 H2 vy R2 S2 ry => ⟨μ2, h2, x, y, d, h', R2, rx.mono S2, ry, e, fun μ3 H3 v R3 S3 rv => k μ3 H3 v R3 (S1.trans (S2.trans S3)) rv⟩⟩⟩
theorem pt_cmp2 {op : CmpOp} {g : O2} (ho : OpR X (compareOp op) (g2 X.K g)) (ha : PE X a (tEm X.K ma)) (hb : PE X b (tEm X.K mb)) (hm : behindInMarks op b = false) : PT X (.Compare a [op] [b] pos) (tBm X.K (bBool (mOp2 g ma mb))) :=
  (pt_cmpR ho ha hb hm).imp fun σ H Q t => bBool_to (fun Q q => op2_to q) t
theorem pt_chain2 {op op' : CmpOp} {g g' : O2} (ho : OpR X (compareOp op) (g2 X.K g)) (ho' : OpR X (compareOp op') (g2 X.K g')) (ha : PE X a (tEm X.K ma)) (hb : PE X b (tEm X.K mb)) (hc : PE X c (tEm X.K mc))
    (hm : lastMarks [op, op'] [b, c] = false) : PT X (.Compare a [op, op'] [b, c] pos) (tBm X.K (bBool (mChain g g' ma mb mc))) := (pt_chain ho ho' ha hb hc hm).imp fun σ H Q t => bBool_to (fun Q q => chain_to q) t
theorem pt_no : PT X e (tBm X.K bNo) := ⟨fun pins s σ H Q I ⟨_, _, _, _, _, _, _, z, _⟩ => nomatch z⟩
variable {ta tb : BM}
theorem pt_not2 (ha : PT X a (tBm X.K ta)) : PT X (.UnaryOp .Not a pos) (tBm X.K (bNot ta)) := (pt_not ha).imp fun σ H Q ⟨μ, ρ, h, d, h', R, N, e, k⟩ => by
  unfold bNot at e
  cases q : ta ρ h with
  | none => rw [q] at e; cases e
  | some r =>
    rw [q] at e
    cases e
    exact ⟨μ, ρ, h, r.1, r.2, R, N, q, fun μ1 H1 R1 S1 => k μ1 H1 R1 S1⟩
theorem pw_no {op : BoolOp} {es : List Expr} : PW X (.BoolOp op es pos) (tBm X.K bNo) := ⟨fun w pins s σ H Q I ⟨_, _, _, _, _, _, _, z, _⟩ => nomatch z⟩
theorem pw_and2 {rest : List Expr} (ha : PT X a (tBm X.K ta)) (hb : PW X (.BoolOp .And (b :: rest) pos) (tBm X.K tb)) : PW X (.BoolOp .And (a :: b :: rest) pos) (tBm X.K (bAnd ta tb)) := (pw_and ha hb).imp fun σ H Q ⟨μ, ρ, h, d, h', R, N, e, k⟩ => by
  obtain ⟨⟨x, h1⟩, e1, e⟩ := bind_some e
  refine ⟨μ, ρ, h, x, h1, R, N, e1, fun μ1 H1 R1 S1 => ?_⟩
  cases x with
  | true => exact ⟨μ1, ρ, h1, d, h', R1, N.mono S1, e, fun μ2 H2 R2 S2 => k μ2 H2 R2 (S1.trans S2)⟩
  | false => cases e; exact k μ1 H1 R1 S1
theorem pw_or2 {rest : List Expr} (ha : PT X a (tBm X.K ta)) (hb : PW X (.BoolOp .Or (b :: rest) pos) (tBm X.K tb)) : PW X (.BoolOp .Or (a :: b :: rest) pos) (tBm X.K (bOr ta tb)) := (pw_or ha hb).imp fun σ H Q ⟨μ, ρ, h, d, h', R, N, e, k⟩ => by
  obtain ⟨⟨x, h1⟩, e1, e⟩ := bind_some e
  refine ⟨μ, ρ, h, x, h1, R, N, e1, fun μ1 H1 R1 S1 => ?_⟩
  cases x with
  | true => cases e; exact k μ1 H1 R1 S1
  | false => exact ⟨μ1, ρ, h1, d, h', R1, N.mono S1, e, fun μ2 H2 R2 S2 => k μ2 H2 R2 (S1.trans S2)⟩
theorem pts_0 : PTs X [] (tBm X.K bYes) := pts_nil.imp fun σ H Q ⟨μ, ρ, h, d, h', R, N, e, k⟩ => by
  cases e
  exact k μ H R (Stp.refl ..)
end
end MP

/-! text Mini8 -/
set_option Elab.async false
set_option linter.all false
set_option maxRecDepth 100000
set_option maxHeartbeats 4000000
namespace MP
open PySem PySem.Spec PyProof.Rows
open L2 hiding St

/-! ### targets -/
def gVar (i : Nat) : GM := fun d ρ h => some (ρ.set i (some d), h)
def gNo : GM := fun _ _ _ => none
def gsNil : GsM := fun ds ρ h => match ds with
  | [] => some (ρ, h)
  | _ => none
def gsCons (g : GM) (gs : GsM) : GsM := fun ds ρ h => match ds with
  | d :: r => (g d ρ h).bind fun q => gs r q.1 q.2
  | [] => none
def gTupM (n : Nat) (gs : GsM) : GM := fun d ρ h => match seqAt h d with
  | some xs => if xs.length = n then gs xs ρ h else none
  | none => none
def gSubM (mo mi : EM) : GM := fun d ρ h => (mo ρ h).bind fun r1 => (mi ρ r1.2).bind fun r2 => (setD r1.1 r2.1 d r2.2).map fun h' => (ρ, h')
theorem out_set {i : Nat} {v : Option V} {σ : Sl} : Out [i] σ (σ.set i v) := ⟨List.length_set .., fun j hj => by
  rw [List.getElem?_set_ne]
  intro e
  exact hj (by rw [e]; exact List.mem_singleton.mpr rfl)⟩
section
variable {X : Cx} {pos : Pos} {tg : Expr}
theorem pg_var {i : Nat} (h : PG X tg (gName i)) : PG X tg (tGm X.K [i] (gVar i)) := h.imp fun v σ H Q ⟨μ, ρ, h, d, ρ', h', R, N, r, e, k⟩ => by
  cases e
  exact k μ H _ R (Stp.refl ..) (N.set r i) out_set
theorem pg_no {is : List Nat} : PG X tg (tGm X.K is gNo) := ⟨fun pins s σ H v u Q I r ⟨_, _, _, _, _, _, _, _, _, z, _⟩ => nomatch z⟩
theorem pgs_0 {is : List Nat} : PGs X [] (tGsm X.K is gsNil) := pgs_nil.imp fun vs σ H Q ⟨μ, ρ, h, ds, ρ', h', R, N, r, e, k⟩ => by
  unfold gsNil at e
  split at e
  · cases e
    cases r
    exact ⟨rfl, k μ H _ R (Stp.refl ..) N (Out.refl ..)⟩
  · cases e
theorem pgs_1 {e : Expr} {es : List Expr} {g : GM} {gs : GsM} {is js : List Nat} (h1 : PG X e (tGm X.K is g)) (h2 : PGs X es (tGsm X.K js gs))
    (hs : (assignEach (e :: es) X.env).map (·.2) = assign e X.env :: (assignEach es X.env).map (·.2)) : PGs X (e :: es) (tGsm X.K (is ++ js) (gsCons g gs)) := (pgs_cons h1 h2 hs).imp fun vs σ H Q ⟨μ, ρ, h, ds, ρ', h', R, N, r, e, k⟩ => by
  unfold gsCons at e
  split at e
  · obtain ⟨⟨ρ1, h1⟩, e1, e⟩ := bind_some e
    cases r with
    | cons r1 r2 =>
      exact ⟨_, _, rfl, μ, ρ, h, _, ρ1, h1, R, N, r1, e1, fun μ1 H1 σ1 R1 S1 N1 O1 => ⟨μ1, ρ1, h1, _, ρ', h', R1, N1, r2.mono S1, e, fun μ2 H2 σ2 R2 S2 N2 O2 =>
        k μ2 H2 σ2 R2 (S1.trans S2) N2 ((O1.mono fun i hi => List.mem_append_left _ hi).trans (O2.mono fun i hi => List.mem_append_right _ hi))⟩⟩
  · cases e
theorem _root_.L2.PG.or {t t' : TG} (a : PG X tg t) (b : PG X tg t') : PG X tg (fun v σ H Q => t v σ H Q ∨ t' v σ H Q) := ⟨fun pins s σ H v u Q I r q => q.elim (a.run pins s σ H v u Q I r) (b.run pins s σ H v u Q I r)⟩
theorem pg_tup2 {es : List Expr} {k : Nat} {gs : GsM} {n : Nat} {is : List Nat} (hc : X.calm = true) (h : PGs X es (tGsm X.K is gs)) (hn : (assignEach es X.env).length = n) (hst : (assignEach es X.env).findIdx? (·.1) = none) :
    PG X (.Tuple es k pos) (tGm X.K is (gTupM n gs)) := ((pg_tup hc h hn hst).or (pg_lst hc h hn hst)).imp fun v σ H Q ⟨μ, ρ, h, d, ρ', h', R, N, r, e, k⟩ => by
  unfold gTupM at e
  split at e
  · rename_i xs ex
    split at e
    · rename_i hl
      obtain ⟨a, vs, rfl, t, s⟩ := seqAt_ok R r ex
      have q : tGsm X.K is gs vs σ H Q := ⟨μ, ρ, h, xs, ρ', h', R, N, s, e, k⟩
      have hl' : vs.length = n := by rw [← s.length]; exact hl
      rcases t with t | t
      · exact .inr ⟨a, vs, rfl, t, hl', q⟩
      · exact .inl ⟨a, vs, rfl, t, hl', q⟩
    · cases e
  · cases e
theorem pg_sub2 {o i : Expr} {mo mi : EM} {is : List Nat} (ho : PE X o (tEm X.K mo)) (hi : PE X i (tEm X.K mi))
    (ha : ∀ v, assign (.Subscript o i pos) X.env v = (do
      let ov ← holding [v] (eval o X.env)
      let iv ← holding [v, ov] (eval i X.env)
      standAt pos
      holding [v, ov, iv] (setItem ov iv v)
      release [v, ov, iv] [])) : PG X (.Subscript o i pos) (tGm X.K is (gSubM mo mi)) := (pg_sub ho hi set_ok ha).imp fun v σ H Q ⟨μ, ρ, h, d, ρ', h', R, N, r, e, k⟩ => by
  obtain ⟨⟨x, h1⟩, e1, e⟩ := bind_some e
  obtain ⟨⟨y, h2⟩, e2, e⟩ := bind_some e
  cases q : setD x y d h2 with
  | none => rw [show setD (x, h1).1 (y, h2).1 d (y, h2).2 = none from q] at e; cases e
  | some h3 =>
    rw [show setD (x, h1).1 (y, h2).1 d (y, h2).2 = some h3 from q] at e
    cases e
    exact ⟨μ, ρ, h, x, h1, R, N, e1, fun μ1 H1 vx R1 S1 rx => ⟨μ1, ρ, h1, y, h2, R1, N.mono S1, e2, fun μ2 H2 vy R2 S2 ry => ⟨μ2, h2, x, y, d, _, R2, rx.mono S2, ry, (r.mono S1).mono S2, q, fun μ3 H3 R3 S3 =>
      k μ3 H3 σ R3 (S1.trans (S2.trans S3)) (N.mono (S1.trans (S2.trans S3))) (Out.refl ..)⟩⟩⟩
end

/-! ### statements -/
def sNext : SM := fun ρ h => some (.nx, ρ, h)
def sNo : SM := fun _ _ => none
def sBreak : SM := fun ρ h => some (.bk, ρ, h)
def sCont : SM := fun ρ h => some (.ct, ρ, h)
def sSeq (a b : SM) : SM := fun ρ h => match a ρ h with
  | some (.nx, ρ1, h1) => b ρ1 h1
  | r => r
def sSet (me : EM) (g : GM) : SM := fun ρ h => (me ρ h).bind fun r => (g r.1 ρ r.2).map fun q => (.nx, q.1, q.2)
def sExpr (me : EM) : SM := fun ρ h => (me ρ h).map fun r => (.nx, ρ, r.2)
def sRet (me : EM) : SM := fun ρ h => (me ρ h).map fun r => (.rt r.1, ρ, r.2)
def sRetN : SM := fun ρ h => some (.rt .non, ρ, h)
def sIf (mt : BM) (a b : SM) : SM := fun ρ h => (mt ρ h).bind fun r => if r.1 = true then a ρ r.2 else b ρ r.2
def sAug (i : Nat) (me : EM) (g : O2) : SM := fun ρ h => (mVar i ρ h).bind fun r0 => (me ρ r0.2).bind fun r1 => (g r0.1 r1.1 r1.2).map fun r2 => (.nx, ρ.set i (some r2.1), r2.2)
def whileM (mt : BM) (body : SM) : Nat → SM
  | 0 => fun _ _ => none
  | n + 1 => fun ρ h => (mt ρ h).bind fun r => if r.1 = true then match body ρ r.2 with
      | some (.nx, ρ1, h1) => whileM mt body n ρ1 h1
      | some (.ct, ρ1, h1) => whileM mt body n ρ1 h1
      | some (.bk, ρ1, h1) => some (.nx, ρ1, h1)
      | some (.rt d, ρ1, h1) => some (.rt d, ρ1, h1)
      | none => none
    else some (.nx, ρ, r.2)
/-- more turns than any loop here takes -/
def manyTurns : Nat := 1000000
def sWhile (mt : BM) (body : SM) : SM := whileM mt body manyTurns
/-- the walked list stands as it stood -/
def gOk : Gd → Hs → Prop
  | none, _ => True
  | some (n, xs), h => itemsAt h n = some xs
open Classical in
noncomputable def forM (gd : Gd) (g : GM) (body : SM) : List D → SM
  | [] => fun ρ h => if gOk gd h then some (.nx, ρ, h) else none
  | x :: xs => fun ρ h => if gOk gd h then (g x ρ h).bind fun q => match body q.1 q.2 with
      | some (.nx, ρ1, h1) => forM gd g body xs ρ1 h1
      | some (.ct, ρ1, h1) => forM gd g body xs ρ1 h1
      | some (.bk, ρ1, h1) => some (.nx, ρ1, h1)
      | some (.rt d, ρ1, h1) => some (.rt d, ρ1, h1)
      | none => none
    else none
noncomputable def sFor (mi : IM) (g : GM) (body : SM) : SM := fun ρ h => (mi ρ h).bind fun r => forM r.1.2 g body r.1.1 ρ r.2

/-- J yields the things xs while the guard holds -/
structure Wk (K : PySem.W.Frag) (J : It) (μ0 : List Addr) (H0 : Hp) (xs : List D) (gd : Gd) : Prop where
  go : ∀ μ h H i, Stp K μ0 H0 μ H → Rel K μ h H → gOk gd h → i < xs.length → J.go i H
  stop : ∀ μ h H, Stp K μ0 H0 μ H → Rel K μ h H → gOk gd h → J.stop xs.length H
  yld : ∀ μ h H i v H', Stp K μ0 H0 μ H → Rel K μ h H → gOk gd h → i < xs.length → J.yld i H v H' → ∃ d, xs[i]? = some d ∧ Rel K μ h H' ∧ Stp K μ H μ H' ∧ RV K H' μ d v
def tIm (K : PySem.W.Frag) (m : IM) : TI := fun σ H R => ∃ μ ρ h xs gd h', Rel K μ h H ∧ REnv K H μ ρ σ ∧ m ρ h = some ((xs, gd), h') ∧ ∀ μ' H' J, Rel K μ' h' H' → Stp K μ H μ' H' → Wk K J μ' H' xs gd → R J H'
def iNo : IM := fun _ _ => none

section
variable {X : Cx} {pos : Pos} {st : Stmt} {sts : List Stmt} {ma mb : SM} {e : Expr} {me : EM}
theorem ps_no : PS X st (tSm X.K sNo) := ⟨fun pins s σ H Q I ⟨_, _, _, _, _, _, _, _, z, _⟩ => nomatch z⟩
theorem ps_nx (h : PS X st tNext) : PS X st (tSm X.K sNext) := h.imp fun D σ H ⟨μ, ρ, h, f, ρ', h', R, N, e, k⟩ => by
  cases e
  exact k μ H R (Stp.refl ..) σ N
theorem ps_bk : PS X (.Break pos) (tSm X.K sBreak) := ps_break.imp fun D σ H ⟨μ, ρ, h, f, ρ', h', R, N, e, k⟩ => by
  cases e
  exact k μ H R (Stp.refl ..) σ N
theorem ps_ct : PS X (.Continue pos) (tSm X.K sCont) := ps_continue.imp fun D σ H ⟨μ, ρ, h, f, ρ', h', R, N, e, k⟩ => by
  cases e
  exact k μ H R (Stp.refl ..) σ N
theorem pss_0 : PSs X [] (tSm X.K sNext) := pss_nil.imp fun D σ H ⟨μ, ρ, h, f, ρ', h', R, N, e, k⟩ => by
  cases e
  exact k μ H R (Stp.refl ..) σ N
theorem pss_1 (h1 : PS X st (tSm X.K ma)) (h2 : PSs X sts (tSm X.K mb)) : PSs X (st :: sts) (tSm X.K (sSeq ma mb)) := (pss_cons h1 h2).imp fun D σ H ⟨μ, ρ, h, f, ρ', h', R, N, e, k⟩ => by
  unfold sSeq at e
  cases q : ma ρ h with
  | none => rw [q] at e; cases e
  | some r =>
    obtain ⟨f1, ρ1, h1⟩ := r
    refine ⟨μ, ρ, h, f1, ρ1, h1, R, N, q, fun μ1 H1 R1 S1 => ?_⟩
    rw [q] at e
    cases f1 with
    | nx => exact fun σ1 N1 => ⟨μ1, ρ1, h1, f, ρ', h', R1, N1, e, fun μ2 H2 R2 S2 => k μ2 H2 R2 (S1.trans S2)⟩
    | bk => cases e; exact k μ1 H1 R1 S1
    | ct => cases e; exact k μ1 H1 R1 S1
    | rt d => cases e; exact k μ1 H1 R1 S1
theorem set_to {g : GM} {is : List Nat} {te : TE} (i : ∀ σ H Q, tEm X.K me σ H Q → te σ H Q) {D : Ends} {σ : Sl} {H : Hp} (t : tSm X.K (sSet me g) D σ H) : tAsg te (tGm X.K is g) D σ H := by
  obtain ⟨μ, ρ, h, f, ρ', h', R, N, e, k⟩ := t
  obtain ⟨⟨x, h1⟩, e1, e⟩ := bind_some e
  cases q : g x ρ h1 with
  | none => rw [show g (x, h1).1 ρ (x, h1).2 = none from q] at e; cases e
  | some r =>
    rw [show g (x, h1).1 ρ (x, h1).2 = some r from q] at e
    cases e
    exact i _ _ _ ⟨μ, ρ, h, x, h1, R, N, e1, fun μ1 H1 vx R1 S1 rx => ⟨μ1, ρ, h1, x, r.1, r.2, R1, N.mono S1, rx, q, fun μ2 H2 σ2 R2 S2 N2 O2 => k μ2 H2 R2 (S1.trans S2) σ2 N2⟩⟩
theorem ps_set2 {i : Nat} {x : Str} {pos' : Pos} (hN : X.N.Nodup) (hi : X.N[i]? = some x) (hx : Loc X.env.scope x) (he : PE X e (tEm X.K me)) (hs : swapsWith e (some (.Name x pos')) pos.line X.env = pure false) (hf : X.fn x = true ∨ X.env.scope.names.lookup x = some .local) :
    PS X (.Assign [.Name x pos'] e pos) (tSm X.K (sSet me (gVar i))) := (ps_set hN hi hx he hs hf).imp fun D σ H t => by
  obtain ⟨μ, ρ, h, f, ρ', h', R, N, e, k⟩ := t
  obtain ⟨⟨x, h1⟩, e1, e⟩ := bind_some e
  cases e
  exact ⟨μ, ρ, h, x, h1, R, N, e1, fun μ1 H1 vx R1 S1 rx => k μ1 H1 R1 S1 _ ((N.mono S1).set rx i)⟩
theorem ps_asg' {tg : Expr} {g : GM} {is : List Nat} (he : PE X e (tEm X.K me)) (hg : PG X tg (tGm X.K is g)) (hs : swapsWithSole [tg] e pos.line X.env = pure false) (hw : swappedStores [tg] e X.env = pure none)
    (h1 : (assignEach [tg] X.env).map (·.2) = [assign tg X.env]) : PS X (.Assign [tg] e pos) (tSm X.K (sSet me g)) := (ps_asg he hg hs hw h1).imp fun D σ H t => set_to (fun _ _ _ q => q) t
theorem ps_expr2 (he : PE X e (tEm X.K me)) (hs : swapsWith e none pos.line X.env = pure false) : PS X (.Expr e pos) (tSm X.K (sExpr me)) := (ps_expr he hs).imp fun D σ H ⟨μ, ρ, h, f, ρ', h', R, N, e, k⟩ => by
  unfold sExpr at e
  cases q : me ρ h with
  | none => rw [q] at e; cases e
  | some r =>
    rw [q] at e
    cases e
    exact ⟨μ, ρ, h, r.1, r.2, R, N, q, fun μ1 H1 vx R1 S1 rx => k μ1 H1 R1 S1 σ (N.mono S1)⟩
theorem ps_ret2 (he : PE X e (tEm X.K me)) : PS X (.Return (some e) pos) (tSm X.K (sRet me)) := (ps_ret he).imp fun D σ H ⟨μ, ρ, h, f, ρ', h', R, N, e, k⟩ => by
  unfold sRet at e
  cases q : me ρ h with
  | none => rw [q] at e; cases e
  | some r =>
    rw [q] at e
    cases e
    exact ⟨μ, ρ, h, r.1, r.2, R, N, q, fun μ1 H1 vx R1 S1 rx => k μ1 H1 R1 S1 vx rx⟩
theorem ps_retN2 : PS X (.Return none pos) (tSm X.K sRetN) := ps_retN.imp fun D σ H ⟨μ, ρ, h, f, ρ', h', R, N, e, k⟩ => by
  cases e
  exact k μ H R (Stp.refl ..) .non .non
theorem ps_if2 {c : Expr} {as bs : List Stmt} {mt : BM} (hc : PT X c (tBm X.K mt)) (ha : PSs X as (tSm X.K ma)) (hb : PSs X bs (tSm X.K mb)) : PS X (.If c as bs pos) (tSm X.K (sIf mt ma mb)) := (ps_if hc ha hb).imp fun D σ H ⟨μ, ρ, h, f, ρ', h', R, N, e, k⟩ => by
  obtain ⟨⟨x, h1⟩, e1, e⟩ := bind_some e
  refine ⟨μ, ρ, h, x, h1, R, N, e1, fun μ1 H1 R1 S1 => ?_⟩
  cases x with
  | true => exact ⟨μ1, ρ, h1, f, ρ', h', R1, N.mono S1, e, fun μ2 H2 R2 S2 => k μ2 H2 R2 (S1.trans S2)⟩
  | false => exact ⟨μ1, ρ, h1, f, ρ', h', R1, N.mono S1, e, fun μ2 H2 R2 S2 => k μ2 H2 R2 (S1.trans S2)⟩
theorem ps_aug2 {i : Nat} {x : Str} {op : Operator} {g : O2} {pos' : Pos} (hN : X.N.Nodup) (hi : X.N[i]? = some x) (hx : Loc X.env.scope x) (he : PE X e (tEm X.K me)) (ho : OpR X (inplaceOp op) (g2 X.K g)) (hf : X.fn x = true ∨ X.env.scope.names.lookup x = some .local) :
    PS X (.AugAssign (.Name x pos') op e pos) (tSm X.K (sAug i me g)) := (ps_aug hN hi hx he ho hf).imp fun D σ H ⟨μ, ρ, h, f, ρ', h', R, N, e, k⟩ => by
  obtain ⟨⟨x0, h0⟩, e0, e⟩ := bind_some e
  obtain ⟨⟨y, h1⟩, e1, e⟩ := bind_some e
  unfold mVar at e0
  split at e0
  · rename_i d0 ed
    cases e0
    obtain ⟨v, ev, rv⟩ := N.at_ i _ ed
    cases q : g x0 y h1 with
    | none => rw [show g (x0, h).1 (y, h1).1 (y, h1).2 = none from q] at e; cases e
    | some r =>
      rw [show g (x0, h).1 (y, h1).1 (y, h1).2 = some r from q] at e
      cases e
      exact ⟨v, ev, μ, ρ, h, y, h1, R, N, e1, fun μ1 H1 vy R1 S1 ry => ⟨μ1, h1, x0, y, r.1, r.2, R1, rv.mono S1, ry, q, fun μ2 H2 w R2 S2 rw' => k μ2 H2 R2 (S1.trans S2) _ ((N.mono (S1.trans S2)).set rw' i)⟩⟩
  · cases e0
theorem ps_while2 {c : Expr} {body : List Stmt} {mt : BM} (hp : PassesOwn (model X.prog X.w) X.A X.env X.xe) (hc : PT X c (tBm X.K mt)) (hb : PSs X body (tSm X.K ma)) : PS X (.While c body [] pos) (tSm X.K (sWhile mt ma)) := (ps_while hp hc hb).imp fun D σ H ⟨μ, ρ, h, f, ρ', h', R, N, e, k⟩ => by
  refine ⟨fun m σ1 H1 => ∃ μ1 ρ1 h1, Rel X.K μ1 h1 H1 ∧ REnv X.K H1 μ1 ρ1 σ1 ∧ whileM mt ma m ρ1 h1 = some (f, ρ', h') ∧ Stp X.K μ H μ1 H1, ⟨manyTurns, μ, ρ, h, R, N, e, Stp.refl ..⟩, fun m σ1 H1 ⟨μ1, ρ1, h1, R1, N1, e1, S1⟩ => ?_⟩
  cases m with
  | zero => cases e1
  | succ m =>
    obtain ⟨⟨b, h2⟩, e2, e1⟩ := bind_some e1
    refine ⟨μ1, ρ1, h1, b, h2, R1, N1, e2, fun μ2 H2 R2 S2 => ?_⟩
    cases b with
    | false =>
      cases e1
      exact k μ2 H2 R2 (S1.trans S2) σ1 (N1.mono S2)
    | true =>
      refine ⟨fun σ3 H3 => ∃ μ3 ρ3 h3, Rel X.K μ3 h3 H3 ∧ REnv X.K H3 μ3 ρ3 σ3 ∧ whileM mt ma m ρ3 h3 = some (f, ρ', h') ∧ Stp X.K μ H μ3 H3, fun σ3 H3 q => ⟨m, Nat.lt_succ_self m, q⟩, ?_⟩
      have e1' : (match ma ρ1 h2 with
        | some (.nx, ρ1, h1) => whileM mt ma m ρ1 h1
        | some (.ct, ρ1, h1) => whileM mt ma m ρ1 h1
        | some (.bk, ρ1, h1) => some (.nx, ρ1, h1)
        | some (.rt d, ρ1, h1) => some (.rt d, ρ1, h1)
        | none => none) = some (f, ρ', h') := e1
      cases q : ma ρ1 h2 with
      | none => rw [q] at e1'; cases e1'
      | some r =>
        obtain ⟨f1, ρ3, h3⟩ := r
        rw [q] at e1'
        refine ⟨μ2, ρ1, h2, f1, ρ3, h3, R2, N1.mono S2, q, fun μ3 H3 R3 S3 => ?_⟩
        cases f1 with
        | nx => exact fun σ3 N3 => ⟨μ3, ρ3, h3, R3, N3, e1', S1.trans (S2.trans S3)⟩
        | ct => exact fun σ3 N3 => ⟨μ3, ρ3, h3, R3, N3, e1', S1.trans (S2.trans S3)⟩
        | bk => cases e1'; exact fun σ3 N3 => k μ3 H3 R3 (S1.trans (S2.trans S3)) σ3 N3
        | rt d => cases e1'; exact fun v rv => k μ3 H3 R3 (S1.trans (S2.trans S3)) v rv
theorem ps_for2 {tg iter : Expr} {body : List Stmt} {mi : IM} {g : GM} {is : List Nat} (hp : PassesOwn (model X.prog X.w) X.A X.env X.xe) (hc : X.calm = true) (hi : PI X tg iter (tIm X.K mi)) (hg : PG X tg (tGm X.K is g)) (hb : PSs X body (tSm X.K ma))
    (hs : ∀ x, foldedSetIterable iter X.env x = pure x) : PS X (.For tg iter body [] pos) (tSm X.K (sFor mi g ma)) := (ps_for hp hc hi hg hb hs).imp fun D σ H ⟨μ, ρ, h, f, ρ', h', R, N, e, k⟩ => by
  obtain ⟨⟨⟨xs, gd⟩, h0⟩, e0, e⟩ := bind_some e
  refine ⟨μ, ρ, h, xs, gd, h0, R, N, e0, fun μ0 H0 J R0 S0 W => ?_⟩
  refine ⟨fun i m σ1 H1 => ∃ μ1 ρ1 h1, i + m = xs.length ∧ Rel X.K μ1 h1 H1 ∧ REnv X.K H1 μ1 ρ1 σ1 ∧ forM gd g ma (xs.drop i) ρ1 h1 = some (f, ρ', h') ∧ Stp X.K μ0 H0 μ1 H1, ⟨xs.length, μ0, ρ, h0, Nat.zero_add _, R0, N.mono S0, e, Stp.refl ..⟩, fun i m σ1 H1 ⟨μ1, ρ1, h1, em, R1, N1, e1, S1⟩ => ?_⟩
  by_cases hi : i < xs.length
  · right
    have ed : xs.drop i = xs[i] :: xs.drop (i + 1) := List.drop_eq_getElem_cons hi
    rw [ed] at e1
    unfold forM at e1
    by_cases hgd : gOk gd h1
    · rw [if_pos hgd] at e1
      obtain ⟨⟨ρ2, h2⟩, e2, e1⟩ := bind_some e1
      refine ⟨W.go μ1 h1 H1 i S1 R1 hgd hi, fun σ3 H3 => ∃ μ3 ρ3 h3, Rel X.K μ3 h3 H3 ∧ REnv X.K H3 μ3 ρ3 σ3 ∧ forM gd g ma (xs.drop (i + 1)) ρ3 h3 = some (f, ρ', h') ∧ Stp X.K μ0 H0 μ3 H3,
        fun σ3 H3 ⟨μ3, ρ3, h3, q1, q2, q3, q4⟩ => ⟨m - 1, by omega, μ3, ρ3, h3, by omega, q1, q2, q3, q4⟩, fun x H2 hy => ?_⟩
      obtain ⟨d, hd, R2, S2, rd⟩ := W.yld μ1 h1 H1 i x H2 S1 R1 hgd hi hy
      have hd' : xs[i] = d := by
        rw [List.getElem?_eq_getElem hi] at hd
        exact Option.some.inj hd
      rw [hd'] at e2
      refine ⟨μ1, ρ1, h1, d, ρ2, h2, R2, N1.mono S2, rd, e2, fun μ3 H3 σ3 R3 S3 N3 O3 => ?_⟩
      have e1' : (match ma ρ2 h2 with
        | some (.nx, ρ1, h1) => forM gd g ma (xs.drop (i + 1)) ρ1 h1
        | some (.ct, ρ1, h1) => forM gd g ma (xs.drop (i + 1)) ρ1 h1
        | some (.bk, ρ1, h1) => some (.nx, ρ1, h1)
        | some (.rt d, ρ1, h1) => some (.rt d, ρ1, h1)
        | none => none) = some (f, ρ', h') := e1
      cases q : ma ρ2 h2 with
      | none => rw [q] at e1'; cases e1'
      | some r =>
        obtain ⟨f1, ρ4, h4⟩ := r
        rw [q] at e1'
        refine ⟨μ3, ρ2, h2, f1, ρ4, h4, R3, N3, q, fun μ4 H4 R4 S4 => ?_⟩
        have SS := S1.trans (S2.trans (S3.trans S4))
        cases f1 with
        | nx => exact fun σ4 N4 => ⟨μ4, ρ4, h4, R4, N4, e1', SS⟩
        | ct => exact fun σ4 N4 => ⟨μ4, ρ4, h4, R4, N4, e1', SS⟩
        | bk => cases e1'; exact fun σ4 N4 => k μ4 H4 R4 (S0.trans SS) σ4 N4
        | rt d => cases e1'; exact fun v rv => k μ4 H4 R4 (S0.trans SS) v rv
    · rw [if_neg hgd] at e1; cases e1
  · left
    have ei : i = xs.length := by omega
    have ed : xs.drop i = [] := List.drop_of_length_le (by omega)
    rw [ed] at e1
    unfold forM at e1
    by_cases hgd : gOk gd h1
    · rw [if_pos hgd] at e1
      cases e1
      rw [ei]
      exact ⟨W.stop μ1 _ H1 S1 R1 hgd, k μ1 H1 R1 (S0.trans S1) σ1 N1⟩
    · rw [if_neg hgd] at e1; cases e1
end

/-! ### what is walked -/
def iSeq (me : EM) : IM := fun ρ h => (me ρ h).bind fun r => match r.1 with
  | .tup xs => some ((xs, none), r.2)
  | .loc n => (itemsAt r.2 n).map fun xs => ((xs, some (n, xs)), r.2)
  | .str x => some ((x.cps.toList.map fun c => .str ⟨#[c]⟩, none), r.2)
  | _ => none
def rangeD (lo c : Int) (n : Nat) : List D := (List.range n).map fun (i : Nat) => .int (lo + (i : Nat) * c)
def iRange1 (me : EM) : IM := fun ρ h => (me ρ h).bind fun r => match r.1 with
  | .int j => if -(2 ^ 62) ≤ j ∧ j < 2 ^ 62 then some ((rangeD 0 1 j.toNat, none), r.2) else none
  | _ => none
def iRange2 (ma mb : EM) : IM := fun ρ h => (ma ρ h).bind fun r => (mb ρ r.2).bind fun r2 => match r.1, r2.1 with
  | .int i, .int j => if -(2 ^ 62) ≤ i ∧ i < 2 ^ 62 ∧ -(2 ^ 62) ≤ j ∧ j < 2 ^ 62 then some ((rangeD i 1 (j - i).toNat, none), r2.2) else none
  | _, _ => none
/-- range(i, j, -1) -/
def iRange3 (ma mb mc : EM) : IM := fun ρ h => (ma ρ h).bind fun r => (mb ρ r.2).bind fun r2 => (mc ρ r2.2).bind fun r3 => match r.1, r2.1, r3.1 with
  | .int i, .int j, .int c => if c = -1 ∧ -(2 ^ 62) ≤ i ∧ i < 2 ^ 62 ∧ -(2 ^ 62) ≤ j ∧ j < 2 ^ 62 then some ((rangeD i (-1) (i - j).toNat, none), r3.2) else none
  | _, _, _ => none
def enumD (xs : List D) : List D := (List.range xs.length).zipWith (fun (i : Nat) x => .tup [.int (i : Nat), x]) xs
def iEnum (me : EM) : IM := fun ρ h => (me ρ h).bind fun r => match r.1 with
  | .tup xs => some ((enumD xs, none), r.2)
  | .loc n => (itemsAt r.2 n).map fun xs => ((enumD xs, some (n, xs)), r.2)
  | _ => none
/-- the guard looks at the items alone; enumerate's guard is on the list's own items -/
def gdOf : Gd → Option (Nat × List D) := id
section
variable {K : PySem.W.Frag}
theorem enumD_len (xs : List D) : (enumD xs).length = xs.length := by unfold enumD; simp
theorem enumD_get {xs : List D} {i : Nat} {x : D} (h : xs[i]? = some x) : (enumD xs)[i]? = some (.tup [.int (i : Nat), x]) := by
  have hl : i < xs.length := (List.getElem?_eq_some_iff.mp h).1
  unfold enumD
  rw [List.getElem?_zipWith, List.getElem?_range hl, h]
theorem rangeD_len (lo c : Int) (n : Nat) : (rangeD lo c n).length = n := by unfold rangeD; simp
theorem rangeD_get {lo c : Int} {n i : Nat} (h : i < n) : (rangeD lo c n)[i]? = some (.int (lo + (i : Nat) * c)) := by
  unfold rangeD
  rw [List.getElem?_map, List.getElem?_range h]
  rfl
theorem wk_tup {μ : List Addr} {H : Hp} {a : Addr} {vs : List V} {xs : List D} (t : TupAt K H a vs) (r : RVs K H μ xs vs) : Wk K (Itt K a) μ H xs none where
  go := fun μ' h H' i S _ _ hi => by
    obtain ⟨v, hv, _⟩ := r.get (List.getElem?_eq_getElem hi)
    exact ⟨vs, v, (S.kp _ _ t).sq, hv⟩
  stop := fun μ' h H' S _ _ => ⟨vs, (S.kp _ _ t).sq, by rw [r.length]; exact Nat.le_refl _⟩
  yld := fun μ' h H' i v H'' S R _ hi hy => by
    obtain ⟨e, ev⟩ := hy
    subst e
    obtain ⟨d, hd, rd⟩ := r.gets (ev vs (S.kp _ _ t).sq)
    exact ⟨d, hd, R, Stp.refl .., rd.mono S⟩
theorem wk_list {μ : List Addr} {H : Hp} {n : Nat} {a : Addr} {xs : List D} (ha : μ[n]? = some a) : Wk K (Itl K a) μ H xs (some (n, xs)) where
  go := fun μ' h H' i S R hg hi => by
    obtain ⟨vs, t, r⟩ := itemsAt_ok R hg (S.ext _ _ ha)
    obtain ⟨v, hv, _⟩ := r.get (List.getElem?_eq_getElem hi)
    exact ⟨vs, v, t, hv⟩
  stop := fun μ' h H' S R hg => by
    obtain ⟨vs, t, r⟩ := itemsAt_ok R hg (S.ext _ _ ha)
    exact ⟨vs, t, by rw [r.length]; exact Nat.le_refl _⟩
  yld := fun μ' h H' i v H'' S R hg hi hy => by
    obtain ⟨vs, t, r⟩ := itemsAt_ok R hg (S.ext _ _ ha)
    obtain ⟨e, ev⟩ := hy
    subst e
    obtain ⟨d, hd, rd⟩ := r.gets (ev vs t)
    exact ⟨d, hd, R, Stp.refl .., rd⟩
theorem wk_enumT {μ : List Addr} {H : Hp} {a : Addr} {vs : List V} {xs : List D} (t : TupAt K H a vs) (r : RVs K H μ xs vs) : Wk K (IteT K a) μ H (enumD xs) none where
  go := fun μ' h H' i S _ _ hi => by
    rw [enumD_len] at hi
    obtain ⟨v, hv, _⟩ := r.get (List.getElem?_eq_getElem hi)
    exact ⟨vs, v, (S.kp _ _ t).sq, hv⟩
  stop := fun μ' h H' S _ _ => ⟨vs, (S.kp _ _ t).sq, by rw [enumD_len, r.length]⟩
  yld := fun μ' h H' i v H'' S R _ hi hy => by
    obtain ⟨T, x, e, nT, eH, ev⟩ := hy
    subst e; subst eH
    obtain ⟨d, hd, rd⟩ := r.gets (ev vs (S.kp _ _ t).sq)
    obtain ⟨R', S'⟩ := R.allocT (u' := .tup [.int (i : Nat), x]) nT
    exact ⟨_, enumD_get hd, R', S', .tup (TupAt.of upd_same) (.cons (.int _) (.cons ((rd.mono S).mono S') .nil))⟩
theorem wk_enum {μ : List Addr} {H : Hp} {n : Nat} {a : Addr} {xs : List D} (ha : μ[n]? = some a) : Wk K (Ite K a) μ H (enumD xs) (some (n, xs)) where
  go := fun μ' h H' i S R hg hi => by
    rw [enumD_len] at hi
    obtain ⟨vs, t, r⟩ := itemsAt_ok R hg (S.ext _ _ ha)
    obtain ⟨v, hv, _⟩ := r.get (List.getElem?_eq_getElem hi)
    exact ⟨vs, v, t, hv⟩
  stop := fun μ' h H' S R hg => by
    obtain ⟨vs, t, r⟩ := itemsAt_ok R hg (S.ext _ _ ha)
    exact ⟨vs, t, by rw [enumD_len, r.length]; exact Nat.le_refl _⟩
  yld := fun μ' h H' i v H'' S R hg hi hy => by
    obtain ⟨vs, t, r⟩ := itemsAt_ok R hg (S.ext _ _ ha)
    obtain ⟨T, x, e, nT, eH, ev⟩ := hy
    subst e; subst eH
    obtain ⟨d, hd, rd⟩ := r.gets (ev vs t)
    obtain ⟨R', S'⟩ := R.allocT (u' := .tup [.int (i : Nat), x]) nT
    exact ⟨_, enumD_get hd, R', S', .tup (TupAt.of upd_same) (.cons (.int _) (.cons (rd.mono S') .nil))⟩
theorem wk_range (μ : List Addr) (H : Hp) (lo : Int) (n : Nat) : Wk K (Itr lo n) μ H (rangeD lo 1 n) none where
  go := fun _ _ _ i _ _ _ hi => by rw [rangeD_len] at hi; exact hi
  stop := fun _ _ _ _ _ _ => by rw [rangeD_len]; exact Nat.le_refl n
  yld := fun μ' h H' i v H'' S R _ hi hy => by
    rw [rangeD_len] at hi
    obtain ⟨e, ev⟩ := hy
    subst e; subst ev
    exact ⟨_, rangeD_get hi, R, Stp.refl .., by rw [Int.mul_one]; exact .int _⟩
theorem wk_rangeC (μ : List Addr) (H : Hp) (lo c : Int) (n : Nat) : Wk K (Itc lo c n) μ H (rangeD lo c n) none where
  go := fun _ _ _ i _ _ _ hi => by rw [rangeD_len] at hi; exact hi
  stop := fun _ _ _ _ _ _ => by rw [rangeD_len]; exact Nat.le_refl n
  yld := fun μ' h H' i v H'' S R _ hi hy => by
    rw [rangeD_len] at hi
    obtain ⟨e, ev⟩ := hy
    subst e; subst ev
    exact ⟨_, rangeD_get hi, R, Stp.refl .., .int _⟩
theorem wk_str (μ : List Addr) (H : Hp) (x : Str) : Wk K (Its x) μ H (x.cps.toList.map fun c => .str ⟨#[c]⟩) none where
  go := fun _ _ _ i _ _ _ hi => by
    show i < x.cps.size
    simpa using hi
  stop := fun _ _ _ _ _ _ => by
    show x.cps.size ≤ _
    simp
  yld := fun μ' h H' i v H'' S R _ hi hy => by
    obtain ⟨e, c, hc, ev⟩ := hy
    subst e; subst ev
    refine ⟨_, ?_, R, Stp.refl .., .str _⟩
    rw [List.getElem?_map, Array.getElem?_toList, hc]
    rfl
end
section
variable {X : Cx} {tg e a b c : Expr} {me ma mb mc : EM}
theorem pi_no : PI X tg e (tIm X.K iNo) := ⟨fun pins s σ H Q I ⟨_, _, _, _, _, _, _, _, z, _⟩ => nomatch z⟩
theorem _root_.L2.PI.or {t t' : TI} (p : PI X tg e t) (q : PI X tg e t') : PI X tg e (fun σ H R => t σ H R ∨ t' σ H R) := ⟨fun pins s σ H R I h => h.elim (p.run pins s σ H R I) (q.run pins s σ H R I)⟩
theorem pi_seq (he : PE X e (tEm X.K me)) : PI X tg e (tIm X.K (iSeq me)) := (((pi_tup he).or (pi_list he)).or (pi_str he)).imp fun σ H R ⟨μ, ρ, h, xs, gd, h', Rl, N, e, k⟩ => by
  obtain ⟨⟨x, h1⟩, e1, e⟩ := bind_some e
  cases x with
  | tup ys =>
    cases e
    refine .inl (.inl ⟨μ, ρ, h, _, _, Rl, N, e1, fun μ1 H1 v R1 S1 rv => ?_⟩)
    cases rv with
    | tup t r => exact ⟨_, rfl, ⟨_, t.sq⟩, k μ1 H1 _ R1 S1 (wk_tup t r)⟩
  | loc n =>
    have e' : (itemsAt h1 n).map (fun xs => ((xs, some (n, xs)), h1)) = some ((xs, gd), h') := e
    cases q : itemsAt h1 n with
    | none => rw [q] at e'; cases e'
    | some ys =>
      rw [q] at e'
      cases e'
      refine .inl (.inr ⟨μ, ρ, h, _, _, Rl, N, e1, fun μ1 H1 v R1 S1 rv => ?_⟩)
      obtain ⟨p, rfl, hp⟩ := rv.loc_at
      obtain ⟨vs, t, _⟩ := itemsAt_ok R1 q hp
      exact ⟨p, rfl, ⟨vs, t⟩, k μ1 H1 _ R1 S1 (wk_list hp)⟩
  | str x =>
    cases e
    refine .inr ⟨μ, ρ, h, _, _, Rl, N, e1, fun μ1 H1 v R1 S1 rv => ?_⟩
    cases rv
    exact ⟨x, rfl, k μ1 H1 _ R1 S1 (wk_str μ1 H1 x)⟩
  | _ => cases e
variable {p pos : Pos}
theorem aOne {me : EM} {μ : List Addr} {σ : Sl} {H : Hp} {Q : List V → Hp → Prop} {ρ : Rho} {h : Hs} {d : D} {h1 : Hs} (Rl : Rel X.K μ h H) (N : REnv X.K H μ ρ σ) (e1 : me ρ h = some (d, h1))
    (k : ∀ μ1 H1 v, Rel X.K μ1 h1 H1 → Stp X.K μ H μ1 H1 → RV X.K H1 μ1 d v → Q [v] H1) : tAm X.K (aCons me aNil) σ H Q :=
  ⟨μ, ρ, h, [d], h1, Rl, N, by show (me ρ h).bind _ = _; rw [e1]; rfl, fun μ1 H1 vs R1 S1 rs => by
    cases rs with
    | cons r1 r2 => cases r2; exact k μ1 H1 _ R1 S1 r1⟩
theorem pi_range1' (hg : Gl X "range") (hm : X.mg "range" = none) (ha : PA X [a] (tAm X.K (aCons ma aNil))) (hs : starEach [a] X.env = [(false, eval a X.env)]) : PI X tg (.Call (.Name "range" p) [a] [] pos) (tIm X.K (iRange1 ma)) :=
  (pi_range1 hg hm ha hs).imp fun σ H R ⟨μ, ρ, h, xs, gd, h', Rl, N, e, k⟩ => by
    obtain ⟨⟨x, h1⟩, e1, e⟩ := bind_some e
    cases x with
    | int j =>
      have e' : (if -(2 ^ 62) ≤ j ∧ j < 2 ^ 62 then some ((rangeD 0 1 j.toNat, none), h1) else none) = some ((xs, gd), h') := e
      split at e'
      · rename_i hj
        cases e'
        refine aOne Rl N e1 fun μ1 H1 v R1 S1 rv => ?_
        cases rv
        exact ⟨j, rfl, hj.1, hj.2, k μ1 H1 _ R1 S1 (wk_range μ1 H1 0 _)⟩
      · cases e'
    | _ => cases e
theorem pi_range2' (hg : Gl X "range") (hm : X.mg "range" = none) (ha : PA X [a, b] (tAm X.K (aCons ma (aCons mb aNil)))) (hs : starEach [a, b] X.env = [(false, eval a X.env), (false, eval b X.env)]) (hs2 : starEach [b] X.env = [(false, eval b X.env)]) :
    PI X tg (.Call (.Name "range" p) [a, b] [] pos) (tIm X.K (iRange2 ma mb)) :=
  (pi_range2 hg hm ha hs hs2).imp fun σ H R ⟨μ, ρ, h, xs, gd, h', Rl, N, e, k⟩ => by
    obtain ⟨⟨x, h1⟩, e1, e⟩ := bind_some e
    obtain ⟨⟨y, h2⟩, e2, e⟩ := bind_some e
    cases x with
    | int i =>
      cases y with
      | int j =>
        have e' : (if -(2 ^ 62) ≤ i ∧ i < 2 ^ 62 ∧ -(2 ^ 62) ≤ j ∧ j < 2 ^ 62 then some ((rangeD i 1 (j - i).toNat, none), h2) else none) = some ((xs, gd), h') := e
        split at e'
        · rename_i hj
          cases e'
          refine ⟨μ, ρ, h, [.int i, .int j], _, Rl, N, by show (ma ρ h).bind _ = _; rw [e1]; show ((mb ρ h1).bind _).bind _ = _; rw [show mb ρ h1 = _ from e2]; rfl, fun μ1 H1 vs R1 S1 rs => ?_⟩
          cases rs with
          | cons r1 r2 =>
            cases r2 with
            | cons r2 r3 =>
              cases r3; cases r1; cases r2
              exact ⟨i, j, rfl, hj, k μ1 H1 _ R1 S1 (wk_range μ1 H1 i _)⟩
        · cases e'
      | _ => cases e
    | _ => cases e
theorem pi_range3' (hg : Gl X "range") (hm : X.mg "range" = none) (ha : PA X [a, b, c] (tAm X.K (aCons ma (aCons mb (aCons mc aNil))))) (hs : starEach [a, b, c] X.env = (false, eval a X.env) :: starEach [b, c] X.env) (hpl : (backTo pos (starEach [b, c] X.env)).any (·.1) = false) :
    PI X tg (.Call (.Name "range" p) [a, b, c] [] pos) (tIm X.K (iRange3 ma mb mc)) :=
  (pi_range3 hg hm ha hs hpl).imp fun σ H R ⟨μ, ρ, h, xs, gd, h', Rl, N, e, k⟩ => by
    obtain ⟨⟨x, h1⟩, e1, e⟩ := bind_some e
    obtain ⟨⟨y, h2⟩, e2, e⟩ := bind_some e
    obtain ⟨⟨z, h3⟩, e3, e⟩ := bind_some e
    cases x with
    | int i =>
      cases y with
      | int j =>
        cases z with
        | int cc =>
          have e' : (if cc = -1 ∧ -(2 ^ 62) ≤ i ∧ i < 2 ^ 62 ∧ -(2 ^ 62) ≤ j ∧ j < 2 ^ 62 then some ((rangeD i (-1) (i - j).toNat, none), h3) else none) = some ((xs, gd), h') := e
          split at e'
          · rename_i hj
            cases e'
            refine ⟨μ, ρ, h, [.int i, .int j, .int cc], _, Rl, N, by show (ma ρ h).bind _ = _; rw [e1]; show ((mb ρ h1).bind _).bind _ = _; rw [show mb ρ h1 = _ from e2]; show (((mc ρ h2).bind _).bind _).bind _ = _; rw [show mc ρ h2 = _ from e3]; rfl, fun μ1 H1 vs R1 S1 rs => ?_⟩
            cases rs with
            | cons r1 r2 =>
              cases r2 with
              | cons r2 r3 =>
                cases r3 with
                | cons r3 r4 =>
                  cases r4; cases r1; cases r2; cases r3
                  obtain ⟨hc, h1, h2, h3, h4⟩ := hj
                  subst hc
                  exact ⟨i, j, -1, _, rfl, RgC.neg h1 h2 h3 h4, k μ1 H1 _ R1 S1 (wk_rangeC μ1 H1 i (-1) _)⟩
          · cases e'
        | _ => cases e
      | _ => cases e
    | _ => cases e
theorem pi_enum2 {elts : List Expr} {kk : Nat} {tpos : Pos} (hg : Gl X "enumerate") (hm : X.mg "enumerate" = none) (ha : PA X [e] (tAm X.K (aCons me aNil))) (hs : starEach [e] X.env = [(false, eval e X.env)]) :
    PI X (.Tuple elts kk tpos) (.Call (.Name "enumerate" p) [e] [] pos) (tIm X.K (iEnum me)) := ((pi_enumT hg hm ha hs).or (pi_enum hg hm ha hs)).imp fun σ H R ⟨μ, ρ, h, xs, gd, h', Rl, N, e, k⟩ => by
  obtain ⟨⟨x, h1⟩, e1, e⟩ := bind_some e
  cases x with
  | tup ys =>
    cases e
    refine .inl (aOne Rl N e1 fun μ1 H1 v R1 S1 rv => ?_)
    cases rv with
    | tup t r => exact ⟨_, _, rfl, t.sq, k μ1 H1 _ R1 S1 (wk_enumT t r)⟩
  | loc n =>
    have e' : (itemsAt h1 n).map (fun xs => ((enumD xs, some (n, xs)), h1)) = some ((xs, gd), h') := e
    cases q : itemsAt h1 n with
    | none => rw [q] at e'; cases e'
    | some ys =>
      rw [q] at e'
      cases e'
      refine .inr (aOne Rl N e1 fun μ1 H1 v R1 S1 rv => ?_)
      obtain ⟨p, rfl, hp⟩ := rv.loc_at
      obtain ⟨vs, t, _⟩ := itemsAt_ok R1 q hp
      exact ⟨p, vs, rfl, t, k μ1 H1 _ R1 S1 (wk_enum hp)⟩
  | _ => cases e
end
end MP

/-! text Mini9 -/
set_option Elab.async false
set_option linter.all false
set_option maxRecDepth 100000
set_option maxHeartbeats 4000000
namespace MP
open PySem PySem.Spec PyProof.Rows
open L2 hiding St

/-! ### [elt for tg in iter if ..] -/
open Classical in
noncomputable def lcLoop (gd : Gd) (g : GM) (mt : BM) (me : EM) (ρ0 : Rho) (n0 : Nat) : List D → Hs → Option Hs
  | [], h => if gOk gd h then some h else none
  | x :: xs, h => if gOk gd h then (g x ρ0 h).bind fun q1 => (mt q1.1 q1.2).bind fun q2 => if q2.1 = true then (me q1.1 q2.2).bind fun q3 => match q3.2[n0]? with
      | some (.lst acc) => if acc.length < sizeLine then lcLoop gd g mt me ρ0 n0 xs (q3.2.set n0 (.lst (acc ++ [q3.1]))) else none
      | _ => none
    else lcLoop gd g mt me ρ0 n0 xs q2.2 else none
noncomputable def mLc (mi : IM) (g : GM) (mt : BM) (me : EM) (vs : List Nat) : EM := fun ρ h => (mi ρ h).bind fun r => (lcLoop r.1.2 g mt me (wipeR ρ vs) r.2.length r.1.1 (r.2 ++ [.lst []])).map fun h' => (.loc r.2.length, h')
theorem lcLoop_next {gd : Gd} {g : GM} {mt : BM} {me : EM} {ρ0 : Rho} {n0 : Nat} {x : D} {xs : List D} {h hf : Hs} (e : lcLoop gd g mt me ρ0 n0 (x :: xs) h = some hf) :
    gOk gd h ∧ ∃ ρ1 h1 b h2, g x ρ0 h = some (ρ1, h1) ∧ mt ρ1 h1 = some (b, h2) ∧
      ((b = true ∧ ∃ y h3 acc, me ρ1 h2 = some (y, h3) ∧ h3[n0]? = some (.lst acc) ∧ acc.length < sizeLine ∧ lcLoop gd g mt me ρ0 n0 xs (h3.set n0 (.lst (acc ++ [y]))) = some hf) ∨ (b = false ∧ lcLoop gd g mt me ρ0 n0 xs h2 = some hf)) := by
  unfold lcLoop at e
  by_cases hg : gOk gd h
  · rw [if_pos hg] at e
    obtain ⟨⟨ρ1, h1⟩, e1, e⟩ := bind_some e
    obtain ⟨⟨b, h2⟩, e2, e⟩ := bind_some e
    refine ⟨hg, ρ1, h1, b, h2, e1, e2, ?_⟩
    cases b with
    | true =>
      left
      obtain ⟨⟨y, h3⟩, e3, e⟩ := bind_some e
      split at e
      · rename_i acc ea
        split at e
        · rename_i hz
          exact ⟨rfl, y, h3, acc, e3, ea, hz, e⟩
        · cases e
      · cases e
    | false => exact .inr ⟨rfl, e⟩
  · rw [if_neg hg] at e; cases e
theorem lcLoop_end {gd : Gd} {g : GM} {mt : BM} {me : EM} {ρ0 : Rho} {n0 : Nat} {h hf : Hs} (e : lcLoop gd g mt me ρ0 n0 [] h = some hf) : gOk gd h ∧ h = hf := by
  unfold lcLoop at e
  by_cases hg : gOk gd h
  · rw [if_pos hg] at e
    exact ⟨hg, Option.some.inj e⟩
  · rw [if_neg hg] at e; cases e
theorem lc_to {K : PySem.W.Frag} {mi : IM} {g : GM} {mt : BM} {me : EM} {vs is : List Nat} (hsub : ∀ i ∈ is, i ∈ vs) {σ : Sl} {H : Hp} {Q : VK} (t : tEm K (mLc mi g mt me vs) σ H Q) : tLc (tIm K mi) (tGm K is g) (tBm K mt) (tEm K me) vs σ H Q := by
  obtain ⟨μ, ρ, h, d, hf, R, N, e, k⟩ := t
  obtain ⟨⟨⟨xs, gd⟩, h0⟩, e0, e⟩ := bind_some e
  refine ⟨μ, ρ, h, xs, gd, h0, R, N, e0, fun μ0 H0 J R0 S0 W => ?_⟩
  intro Dp hD
  cases eL : lcLoop gd g mt me (wipeR ρ vs) h0.length xs (h0 ++ [.lst []]) with
  | none => rw [show lcLoop _ g mt me (wipeR ρ vs) _ _ _ = none from eL] at e; cases e
  | some hf' =>
    rw [show lcLoop _ g mt me (wipeR ρ vs) _ _ _ = some hf' from eL] at e
    cases e
    obtain ⟨R00, S00⟩ := R0.alloc (u' := .lst []) (o' := .lst []) hD ⟨[], upd_same, .nil⟩
    have hat : (μ0 ++ [Dp])[h0.length]? = some Dp := by
      rw [List.getElem?_append_right (by rw [R0.len]; exact Nat.le_refl _), R0.len, Nat.sub_self]
      rfl
    have Nw : REnv K H0 μ0 (wipeR ρ vs) (L2.wipe σ vs) := (N.wipe vs).mono S0
    refine ⟨fun i m H1 => ∃ μ1 h1, i + m = xs.length ∧ Rel K μ1 h1 H1 ∧ Stp K μ0 H0 μ1 H1 ∧ μ1[h0.length]? = some Dp ∧ lcLoop gd g mt me (wipeR ρ vs) h0.length (xs.drop i) h1 = some hf,
      ⟨xs.length, μ0 ++ [Dp], h0 ++ [.lst []], Nat.zero_add _, R00, S00, hat, by rw [List.drop_zero]; exact eL⟩, fun i m H1 ⟨μ1, h1, em, R1, S1, ha, e1⟩ => ?_⟩
    by_cases hi : i < xs.length
    · right
      have ed : xs.drop i = xs[i] :: xs.drop (i + 1) := List.drop_eq_getElem_cons hi
      rw [ed] at e1
      obtain ⟨hgd, ρ1, h2, b, h3, e2, e3, e4⟩ := lcLoop_next e1
      refine ⟨W.go μ1 h1 H1 i S1 R1 hgd hi, fun H3 => ∃ μ3 h3, Rel K μ3 h3 H3 ∧ Stp K μ0 H0 μ3 H3 ∧ μ3[h0.length]? = some Dp ∧ lcLoop gd g mt me (wipeR ρ vs) h0.length (xs.drop (i + 1)) h3 = some hf,
        fun H3 ⟨μ3, h3, q1, q2, q3, q4⟩ => ⟨m - 1, by omega, μ3, h3, by omega, q1, q2, q3, q4⟩, fun x H2 hy => ?_⟩
      obtain ⟨d, hd, R2, S2, rd⟩ := W.yld μ1 h1 H1 i x H2 S1 R1 hgd hi hy
      have hd' : xs[i] = d := by
        rw [List.getElem?_eq_getElem hi] at hd
        exact Option.some.inj hd
      rw [hd'] at e2
      refine ⟨μ1, wipeR ρ vs, h1, d, ρ1, h2, R2, Nw.mono (S1.trans S2), rd, e2, fun μ3 H3 σ3 R3 S3 N3 O3 => ⟨(O3.mono hsub).wipe.trans ?_, μ3, ρ1, h2, b, h3, R3, N3, e3, fun μ4 H4 R4 S4 => ?_⟩⟩
      · -- forgetting twice is forgetting once
        refine List.ext_getElem? fun j => ?_
        by_cases hj : j ∈ vs
        · rw [wipe_in _ hj, wipe_in _ hj, wipe_len]
        · rw [wipe_out hj]
      · have S14 := S1.trans (S2.trans (S3.trans S4))
        rcases e4 with ⟨rfl, y, h5, acc, e5, ea, hz, e6⟩ | ⟨rfl, e6⟩
        · refine iteT ?_
          refine ⟨μ4, ρ1, h3, y, h5, R4, N3.mono S4, e5, fun μ5 H5 v R5 S5 rv => ?_⟩
          have ha5 : μ5[h0.length]? = some Dp := (S2.trans (S3.trans (S4.trans S5))).ext _ _ ha
          obtain ⟨ws, hw, sw⟩ := R5.lst ea ha5
          obtain ⟨R6, S6⟩ := R5.write (u' := .lst (ws ++ [v])) (o' := .lst (acc ++ [y])) ea rfl ha5 rfl fun u e m => ⟨_, upd_same, (sw.append (.cons rv .nil)).mono (Stp.upd e m)⟩
          exact ⟨ws, hw, by rw [← sw.length]; exact hz, μ5, _, R6, S14.trans (S5.trans S6), ha5, e6⟩
        · refine iteF ?_
          exact ⟨μ4, h3, R4, S14, (S2.trans (S3.trans S4)).ext _ _ ha, e6⟩
    · left
      have ei : i = xs.length := by omega
      have ed : xs.drop i = [] := List.drop_of_length_le (by omega)
      rw [ed] at e1
      obtain ⟨hgd, eh⟩ := lcLoop_end e1
      subst eh
      rw [ei]
      exact ⟨W.stop μ1 _ H1 S1 R1 hgd, k μ1 H1 _ R1 (S0.trans S1) (.loc ha)⟩
end MP

/-! text Mini10 -/
set_option Elab.async false
set_option linter.all false
set_option maxRecDepth 100000
set_option maxHeartbeats 4000000
namespace MP
open PySem PySem.Spec PyProof.Rows
open L2 hiding St

/-! ### the text: what must be seen of it -/
def notStar : Expr → Bool
  | .Starred .. => false
  | _ => true
def noSetE : Expr → Bool
  | .Set .. => false
  | _ => true
def notSlice : Expr → Bool
  | .Slice .. => false
  | _ => true
def notComp : Expr → Bool
  | .ListComp .. => false
  | .SetComp .. => false
  | .DictComp .. => false
  | _ => true
def notTup : Expr → Bool
  | .Tuple .. => false
  | _ => true
def plainBase : Expr → Bool
  | .Call (.Name ..) [] .. => false
  | _ => true
def plainTest : Expr → Bool
  | .UnaryOp .Not .. => false
  | .BoolOp .. => false
  | .IfExp .. => false
  | .Compare .. => false
  | _ => true
section
variable {e : Expr} {es : List Expr} {env : Env} {pos : Pos}
theorem star_one (h : notStar e = true) : starEach (e :: es) env = (false, eval e env) :: starEach es env := by
  cases e <;> first | rfl | cases h
theorem star_any : ∀ {es : List Expr}, es.all notStar = true → (backTo pos (starEach es env)).any (·.1) = false
  | [], _ => rfl
  | e :: es, h => by
    rw [List.all_cons, Bool.and_eq_true] at h
    rw [star_one h.1]
    show (false || (backTo pos (starEach es env)).any (·.1)) = false
    rw [star_any h.2]
    rfl
theorem star_all : ∀ {es : List Expr}, es.all notStar = true → (backTo pos (starEach es env)).all (fun x => !x.1) = true
  | [], _ => rfl
  | e :: es, h => by
    rw [List.all_cons, Bool.and_eq_true] at h
    rw [star_one h.1]
    show (true && (backTo pos (starEach es env)).all (fun x => !x.1)) = true
    rw [star_all h.2]
    rfl
theorem asg_one (h : notStar e = true) : assignEach (e :: es) env = (false, assign e env) :: assignEach es env := by
  cases e <;> first | rfl | cases h
theorem asg_map (h : notStar e = true) : (assignEach (e :: es) env).map (·.2) = assign e env :: (assignEach es env).map (·.2) := by
  rw [asg_one h]; rfl
theorem asg_len : ∀ {es : List Expr}, es.all notStar = true → (assignEach es env).length = es.length
  | [], _ => rfl
  | e :: es, h => by
    rw [List.all_cons, Bool.and_eq_true] at h
    rw [asg_one h.1, List.length_cons, List.length_cons, asg_len h.2]
theorem asg_star : ∀ {es : List Expr}, es.all notStar = true → (assignEach es env).findIdx? (·.1) = none
  | [], _ => rfl
  | e :: es, h => by
    rw [List.all_cons, Bool.and_eq_true] at h
    rw [asg_one h.1, List.findIdx?_cons, asg_star h.2]
    rfl
theorem set_fold (h : noSetE e = true) (x : Value) : foldedSetIterable e env x = pure x := by
  cases e <;> first | rfl | cases h
theorem set_marks {op : CmpOp} (h : noSetE e = true) : behindInMarks op e = false := by
  cases e <;> first | rfl | cases h
theorem plain_ix (h : notSlice e = true) : PlainIx e := fun o i => by
  cases e <;> first | rfl | cases h
theorem plain_base {m : Str} {w : Sem Value} (h : plainBase e = true) : attributeBase e m env w = w := by
  unfold plainBase at h
  split at h
  · cases h
  · rename_i hn
    unfold attributeBase
    split
    · rename_i id _ _
      exact absurd rfl (hn _ _ _ _)
    · rfl
theorem plain_test (h : plainTest e = true) (w : Sem Value) : isTrue e env w = (do let v ← w; standAt e.pos; holding [v] (truthy v)) := by
  cases e <;> first | rfl | (cases h; done) | skip
  rename_i op a p
  cases op <;> first | rfl | (cases h; done)
theorem swaps_no {t : Option Expr} {l : Nat} (h : notComp e = true) : swapsWith e t l env = pure false := by
  cases e <;> first | rfl | cases h
theorem swaps_sole {t : Expr} {l : Nat} (h : notComp e = true) : swapsWithSole [t] e l env = pure false := swaps_no h
theorem swapped_tup {ts : List Expr} {k : Nat} {p : Pos} (h : notTup e = true) : swappedStores [.Tuple ts k p] e env = pure none := by
  unfold swappedStores
  cases e <;> first | (cases h; done) | rfl
theorem swapped_sub {o i : Expr} {p : Pos} : swappedStores [.Subscript o i p] e env = pure none := rfl
theorem swapped_att {o : Expr} {a : Str} {p : Pos} : swappedStores [.Attribute o a p] e env = pure none := rfl
theorem assign_sub {o i : Expr} (h : notSlice i = true) (v : Value) : assign (.Subscript o i pos) env v = (do
      let ov ← holding [v] (eval o env)
      let iv ← holding [v, ov] (eval i env)
      standAt pos
      holding [v, ov, iv] (setItem ov iv v)
      release [v, ov, iv] []) := by
  cases i <;> first | rfl | cases h
end

/-! ### what is known where the text stands -/
structure CT where
  N : List Str
  sc : Scope
  fx : Option (List (Str × NameKind))
  C : List (Str × D)
  B : List Str
  T : List ((Str × Nat) × ON)
def CT.fn (c : CT) (x : Str) : Bool := match c.fx with
  | none => true
  | some ns => ns.lookup x == some .cell
/-- the block of a comprehension -/
def CT.blk (c : CT) (scope : Scope) : CT := { c with sc := relS scope c.sc, fx := some scope.names }
def kindIn (c : CT) (x : Str) : Option NameKind := c.sc.names.lookup x
def isVis (c : CT) (x : Str) : Bool := match kindIn c x with
  | some .local => true
  | some .cell => true
  | some .free => true
  | _ => false
def isGl (c : CT) (x : Str) : Bool := match kindIn c x with
  | some .globalImplicit => true
  | _ => false
def isSt (c : CT) (x : Str) : Bool := match kindIn c x with
  | some .local => true
  | some .cell => c.fn x
  | _ => false
def ixOf (N : List Str) (x : Str) : Option Nat := match N.findIdx? (fun y => decide (y = x)) with
  | some i => if N[i]? = some x then some i else none
  | none => none
theorem ixOf_ok {N : List Str} {x : Str} {i : Nat} (h : ixOf N x = some i) : N[i]? = some x := by
  unfold ixOf at h
  split at h
  · split at h
    · cases h; assumption
    · cases h
  · cases h
def spF (K : PySem.W.Frag) (n : Nat) (F : ON) : Sp := fun vs H Q _ => vs.length = n ∧ gN K F vs H Q
structure FOk (P : Program) (w : World) (K : PySem.W.Frag) (mg : Str → Option Value) (base : Heap) (A : Around) (x : Str) (n : Nat) (F : ON) : Prop where
  ex : ∃ (k : Nat) (f : Addr) (fd : FuncData) (ps : List Str) (ds : List Value) (dvs : List V) (sp : Sp), FnOk P w K mg base CX0 k f fd ps sp ∧ Room k A ∧ mg x = some (.ref f) ∧ PySem.W.keepIn K (.ref f) = true ∧ Binds K fd ps ds ∧ Vals dvs ds ∧
    ∀ vs H Q, vs.length = n → gN K F vs H Q → sp (vs ++ dvs) H Q E0
structure CtOk (c : CT) (X : Cx) : Prop where
  N : X.N = c.N
  nd : c.N.Nodup
  kd : c.sc.kind = .function
  sc : X.env.scope = c.sc
  fn : ∀ x, X.fn x = c.fn x
  calm : X.calm = true
  xe : X.xe = fun _ _ => False
  hu : X.A.units + 65 < cLine
  C : ∀ x d, c.C.lookup x = some d → ∃ u v, X.mg x = some u ∧ RelV v u ∧ ∀ H μ, RV X.K H μ d v
  B : ∀ x, x ∈ c.B → X.mg x = none
  T : ∀ x n F, c.T.lookup (x, n) = some F → FOk X.prog X.w X.K X.mg X.base X.A x n F
section
variable {c : CT} {X : Cx} {x : Str}
theorem CtOk.vis (ok : CtOk c X) (h : isVis c x = true) : Vis X.env.scope x := by
  unfold isVis kindIn at h
  unfold Vis
  rw [ok.sc]
  split at h
  · exact .inl (by assumption)
  · exact .inr (.inl (by assumption))
  · exact .inr (.inr (by assumption))
  · cases h
theorem CtOk.gl (ok : CtOk c X) (h : isGl c x = true) : Gl X x := by
  unfold isGl kindIn at h
  unfold Gl Env.kindOf
  rw [ok.sc]
  split at h
  · assumption
  · cases h
theorem CtOk.st (ok : CtOk c X) (h : isSt c x = true) : L2.Loc X.env.scope x ∧ (X.fn x = true ∨ X.env.scope.names.lookup x = some .local) := by
  unfold isSt kindIn at h
  unfold L2.Loc
  rw [ok.sc, ok.fn]
  split at h
  · exact ⟨.inl (by assumption), .inr (by assumption)⟩
  · exact ⟨.inr (by assumption), .inl h⟩
  · cases h
theorem CtOk.never (ok : CtOk c X) : PassesOwn (model X.prog X.w) X.A X.env X.xe := by
  rw [ok.xe]
  exact PassesOwn.never
theorem CtOk.blk (ok : CtOk c X) (scope : Scope) (hk : scope.kind = .function) (s : Shared) (H : Hp) (C : Addr) (cl : List (Str × Addr)) (fp : List Addr) : CtOk (c.blk scope) (X.blk s H scope (compEnvC scope cl C X.env) fp) where
  N := ok.N
  nd := ok.nd
  kd := hk
  sc := by
    show relabel scope X.env = relS scope c.sc
    rw [← ok.sc]
    rfl
  fn := fun x => rfl
  calm := ok.calm
  xe := rfl
  hu := ok.hu
  C := ok.C
  B := ok.B
  T := ok.T
end

/-! ### built-in names -/
def tyOf (x : Str) : Option String :=
  if x = ("int" : Str) then some "int" else if x = ("str" : Str) then some "str" else if x = ("bool" : Str) then some "bool" else if x = ("tuple" : Str) then some "tuple" else if x = ("list" : Str) then some "list" else if x = ("dict" : Str) then some "dict" else none
theorem tyOf_ok {x : Str} {n : String} (h : tyOf x = some n) : bootBuiltins x = some (.type n) ∧ x ≠ "__name__" ∧ (x == ("__debug__" : Str)) = false := by
  unfold tyOf at h
  repeat' split at h
  all_goals (first | (cases h; done) | (cases h; subst_vars; exact ⟨by decide +kernel, by decide +kernel, by decide +kernel⟩))
def bltN (x : Str) : Option ON :=
  if x = ("len" : Str) then some lenN else if x = ("isinstance" : Str) then some isinstN else if x = ("list" : Str) then some listN else if x = ("tuple" : Str) then some tupleN
  else if x = ("int" : Str) then some intN else if x = ("min" : Str) then some min2N else if x = ("max" : Str) then some max2N else if x = ("sum" : Str) then some sumN
  else if x = ("all" : Str) then some allN else if x = ("any" : Str) then some anyN else if x = ("sorted" : Str) then some sortedN else none
theorem bltN_ok {x : Str} {g : ON} {X : Cx} (hc : X.calm = true) (h : bltN x = some g) : x ≠ "__name__" ∧ (x == ("__debug__" : Str)) = false ∧
    ((∃ id, bootBuiltins x = some (.builtin id) ∧ CallR X (.builtin id) (gN X.K g)) ∨ ∃ T, bootBuiltins x = some (.type T) ∧ CallR X (.type T) (gN X.K g)) := by
  unfold bltN at h
  split at h
  · cases h; subst_vars; exact ⟨by decide +kernel, by decide +kernel, .inl ⟨_, by decide +kernel, len_ok⟩⟩
  split at h
  · cases h; subst_vars; exact ⟨by decide +kernel, by decide +kernel, .inl ⟨_, by decide +kernel, isinst_ok'⟩⟩
  split at h
  · cases h; subst_vars; exact ⟨by decide +kernel, by decide +kernel, .inr ⟨_, by decide +kernel, list_ok⟩⟩
  split at h
  · cases h; subst_vars; exact ⟨by decide +kernel, by decide +kernel, .inr ⟨_, by decide +kernel, tuple_ok⟩⟩
  split at h
  · cases h; subst_vars; exact ⟨by decide +kernel, by decide +kernel, .inr ⟨_, by decide +kernel, int_ok⟩⟩
  split at h
  · cases h; subst_vars; exact ⟨by decide +kernel, by decide +kernel, .inl ⟨_, by decide +kernel, min2_ok hc⟩⟩
  split at h
  · cases h; subst_vars; exact ⟨by decide +kernel, by decide +kernel, .inl ⟨_, by decide +kernel, max2_ok hc⟩⟩
  split at h
  · cases h; subst_vars; exact ⟨by decide +kernel, by decide +kernel, .inl ⟨_, by decide +kernel, sum_ok hc⟩⟩
  split at h
  · cases h; subst_vars; exact ⟨by decide +kernel, by decide +kernel, .inl ⟨_, by decide +kernel, all_ok hc⟩⟩
  split at h
  · cases h; subst_vars; exact ⟨by decide +kernel, by decide +kernel, .inl ⟨_, by decide +kernel, any_ok hc⟩⟩
  split at h
  · cases h; subst_vars; exact ⟨by decide +kernel, by decide +kernel, .inl ⟨_, by decide +kernel, sorted_ok⟩⟩
  · cases h
/-- methods of built-in types, by name -/
def methL (m : Str) : Option ((Hs → D → Bool) × OM) :=
  if m = ("append" : Str) then some (isLst, appendM) else if m = ("extend" : Str) then some (isLst, extendM) else if m = ("pop" : Str) then some (isLst, popM) else if m = ("index" : Str) then some (isLst, indexM) else none
structure MethOk (X : Cx) (m : Str) (ty : Hs → D → Bool) (g : OM) : Prop where
  ex : ∃ T id, PlainAttrs T ∧ Slot T m id ∧ typeOf (.builtin id) = pure (.type "method_descriptor") ∧ MtR X id (gM X.K g) ∧ ∀ μ h H x v, Rel X.K μ h H → RV X.K H μ x v → ty h x = true → tyV X.K T v H
theorem methL_ok {X : Cx} {m : Str} {ty : Hs → D → Bool} {g : OM} (h : methL m = some (ty, g)) : MethOk X m ty g := by
  unfold methL at h
  split at h
  · cases h; subst_vars; exact ⟨_, _, PySem.F.plainAttrs_list, PySem.F.slot_list_append, PySem.F.type_list_append, append_ok, isLst_ok⟩
  split at h
  · cases h; subst_vars; exact ⟨_, _, PySem.F.plainAttrs_list, PySem.F.slot_list_extend, PySem.F.type_list_extend, extend_ok, isLst_ok⟩
  split at h
  · cases h; subst_vars; exact ⟨_, _, PySem.F.plainAttrs_list, PySem.F.slot_list_pop, PySem.F.type_list_pop, pop_ok, isLst_ok⟩
  split at h
  · cases h; subst_vars; exact ⟨_, _, PySem.F.plainAttrs_list, PySem.F.slot_list_index, PySem.F.type_list_index, index_ok, isLst_ok⟩
  · cases h
end MP

/-! text Mini11 -/
set_option Elab.async false
set_option linter.all false
set_option maxRecDepth 100000
set_option maxHeartbeats 4000000
namespace MP
open PySem PySem.Spec PyProof.Rows
open L2 hiding St

/-! ### two or three plain names at once: stored from the right -/
def setAll (ρ : Rho) : List Nat → List D → Rho
  | i :: is, d :: ds => setAll (ρ.set i (some d)) is ds
  | _, _ => ρ
def sPar (is : List Nat) (ma : AM) : SM := fun ρ h => (ma ρ h).bind fun r => if r.1.length = is.length then some (.nx, setAll ρ is r.1, r.2) else none
def isStar : Expr → Bool
  | .Starred .. => true
  | _ => false
/-- what swappedStores says -/
def swP (sc : Scope) (ts vs : List Expr) : Option (Option (List Str)) :=
  if (!(ts.length == 2 || ts.length == 3) || vs.length != ts.length) = true then some none
  else if (vs.any fun | .Starred .. => true | _ => false) = true then some none
  else if ((ts.filterMap fun
      | .Name id pos => if sc.names.lookup id == some .local && pos.line == (ts.head?.map (·.pos.line)).getD 0 then some id else none
      | _ => none).length != ts.length || (ts.filterMap fun
      | .Name id pos => if sc.names.lookup id == some .local && pos.line == (ts.head?.map (·.pos.line)).getD 0 then some id else none
      | _ => none).eraseDups.length != (ts.filterMap fun
      | .Name id pos => if sc.names.lookup id == some .local && pos.line == (ts.head?.map (·.pos.line)).getD 0 then some id else none
      | _ => none).length) = true then some none
    else if vs.all (foldedForSure 8) = true then some none
    else if vs.all (constantsAlone 8) = true then none
    else some (some (ts.filterMap fun
      | .Name id pos => if sc.names.lookup id == some .local && pos.line == (ts.head?.map (·.pos.line)).getD 0 then some id else none
      | _ => none))
theorem swP_ok {env : Env} {ts vs : List Expr} {k k2 : Nat} {p p2 : Pos} {r : Option (List Str)} (hk : env.scope.kind = .function) (h : swP env.scope ts vs = some r) : swappedStores [.Tuple ts k p] (.Tuple vs k2 p2) env = pure r := by
  have hb : env.blockKind = .function := by unfold Env.blockKind; rw [hk]; rfl
  unfold swP at h
  unfold swappedStores Env.kindOf
  simp only [hb, bne_self_eq_false, Bool.or_false]
  split at h
  · rename_i c1
    cases h
    exact if_pos c1
  rename_i c1
  refine (if_neg c1).trans ?_
  split at h
  · rename_i c2
    cases h
    exact if_pos c2
  rename_i c2
  refine (if_neg c2).trans ?_
  split at h
  · rename_i c3
    cases h
    exact if_pos c3
  rename_i c3
  refine (if_neg c3).trans ?_
  split at h
  · rename_i c4
    cases h
    exact if_pos c4
  rename_i c4
  refine (if_neg c4).trans ?_
  split at h
  · cases h
  · rename_i c5
    cases h
    exact if_neg c5
section
variable {X : Cx} {pos : Pos}
theorem ps_par3 {i j l : Nat} {x y z : Str} {a b c : Expr} {ta : TA} {px py pz pt : Pos} {kt k2 pt2} (hc : X.calm = true) (hN : X.N.Nodup) (hi : X.N[i]? = some x) (hj : X.N[j]? = some y) (hl : X.N[l]? = some z) (hij : i ≠ j) (hil : i ≠ l) (hjl : j ≠ l)
    (hx : X.env.scope.names.lookup x = some .local) (hy : X.env.scope.names.lookup y = some .local) (hz : X.env.scope.names.lookup z = some .local) (ha : PA X [a, b, c] ta)
    (hw : swappedStores [.Tuple [.Name x px, .Name y py, .Name z pz] kt pt] (.Tuple [a, b, c] k2 pt2) X.env = pure (some [x, y, z]))
    (hs : swapsWithSole [.Tuple [.Name x px, .Name y py, .Name z pz] kt pt] (.Tuple [a, b, c] k2 pt2) pos.line X.env = pure false) :
    PS X (.Assign [.Tuple [.Name x px, .Name y py, .Name z pz] kt pt] (.Tuple [a, b, c] k2 pt2) pos) (fun D σ H => ta σ H fun vs H1 => ∃ v w u, vs = [v, w, u] ∧ D.nx (((σ.set i (some v)).set j (some w)).set l (some u)) H1) := by
  refine ⟨fun pins s σ H D I h => ?_⟩
  rw [exec_Assign_arm]
  refine wpAny_bind (wpAny_standAt ?_)
  rw [hs]
  refine wpAny_bind (wpAny_pure ?_)
  rw [if_neg (by decide)]
  refine wpAny_bind (Tuple_ (thn (ha.run _ pins s σ H _ I h) fun us s1 ⟨vs, H1, I1, r1, q1⟩ => ?_))
  obtain ⟨v, w, u, e1, q1⟩ := q1
  subst e1
  obtain ⟨u1, u2, u3, rfl, rv, rw', ru⟩ : ∃ u1 u2 u3, us = [u1, u2, u3] ∧ RelV v u1 ∧ RelV w u2 ∧ RelV u u3 := by
    cases r1 with
    | cons p q =>
      cases q with
      | cons p' q' =>
        cases q' with
        | cons p'' q'' =>
          cases q''
          exact ⟨_, _, _, rfl, p, p', p''⟩
  refine wpAny_newObj_type ?_ (by show 3 ≤ sizeLine; decide)
  have I2 : Inv X pins σ H1 { s1 with heap := s1.heap.push { cls := .type "tuple", data := .seq [u1, u2, u3].toArray } } := I1.kept (t' := s1.toks) fun b o e => Heap.get?_push_of_some _ e
  rw [hw]
  refine wpAny_bind (wpAny_pure ?_)
  show wpAny (model X.prog X.w) X.A (do rule "assign.swapped-stores"; let items ← unpackItems (.ref s1.heap.objs.size) 3 none; assignInOrder [fun v => bindName X.env z v, fun v => bindName X.env y v, fun v => bindName X.env x v] items.reverse; pure Flow.next) _ _ _
  refine wpAny_bind (wpAny_rule (wpAny_bind (unpackItems_tuple (items := #[u1, u2, u3]) (I.ok.hd hc) (IsTup.new s1.heap _) fun h' hx' => ?_)))
  have I3 := I2.kept (h' := h') (t' := s1.toks) fun b o e => hx' b o (Nat.ne_of_lt (Heap.lt_size e)) e
  show wpAny _ _ (assignInOrder [fun v => bindName X.env z v, fun v => bindName X.env y v, fun v => bindName X.env x v] [u3, u2, u1] >>= fun _ => pure Flow.next) _ _ _
  refine wpAny_bind (assignInOrder_cons (wpAny_bindName (store_ok I3 hN hl (.inl hz) ru (fun s2 I4 => ?_) (.inr hz))))
  refine assignInOrder_cons (wpAny_bindName (store_ok I4 hN hj (.inl hy) rw' (fun s3 I5 => ?_) (.inr hy)))
  refine assignInOrder_cons (wpAny_bindName (store_ok I5 hN hi (.inl hx) rv (fun s4 I6 => assignInOrder_nil (wpAny_pure ?_)) (.inr hx)))
  have e : ((σ.set l (some u)).set j (some w)).set i (some v) = ((σ.set i (some v)).set j (some w)).set l (some u) := by
    rw [List.set_comm _ _ (Ne.symm hjl), List.set_comm _ _ (Ne.symm hil), List.set_comm _ _ (Ne.symm hij)]
  rw [e] at I6
  exact ⟨_, H1, I6, q1⟩
theorem ps_p2 {i j : Nat} {x y : Str} {a b : Expr} {mas : AM} {px py pt : Pos} {kt k2 pt2} (hc : X.calm = true) (hN : X.N.Nodup) (hi : X.N[i]? = some x) (hj : X.N[j]? = some y) (hij : i ≠ j)
    (hx : X.env.scope.names.lookup x = some .local) (hy : X.env.scope.names.lookup y = some .local) (ha : PA X [a, b] (tAm X.K mas))
    (hw : swappedStores [.Tuple [.Name x px, .Name y py] kt pt] (.Tuple [a, b] k2 pt2) X.env = pure (some [x, y])) :
    PS X (.Assign [.Tuple [.Name x px, .Name y py] kt pt] (.Tuple [a, b] k2 pt2) pos) (tSm X.K (sPar [i, j] mas)) := (ps_par hc hN hi hj hij hx hy ha hw rfl).imp fun D σ H ⟨μ, ρ, h, f, ρ', h', R, N, e, k⟩ => by
  obtain ⟨⟨ds, h1⟩, e1, e⟩ := bind_some e
  refine ⟨μ, ρ, h, ds, h1, R, N, e1, fun μ1 H1 vs R1 S1 rs => ?_⟩
  split at e
  · rename_i hl
    cases e
    cases rs with
    | nil => cases hl
    | cons r1 r2 =>
      cases r2 with
      | nil => cases hl
      | cons r2 r3 =>
        cases r3 with
        | cons _ _ => cases hl
        | nil => exact ⟨_, _, rfl, k μ1 H1 R1 S1 _ (((N.mono S1).set r1 i).set r2 j)⟩
  · cases e
theorem ps_p3 {i j l : Nat} {x y z : Str} {a b c : Expr} {mas : AM} {px py pz pt : Pos} {kt k2 pt2} (hc : X.calm = true) (hN : X.N.Nodup) (hi : X.N[i]? = some x) (hj : X.N[j]? = some y) (hl : X.N[l]? = some z) (hij : i ≠ j) (hil : i ≠ l) (hjl : j ≠ l)
    (hx : X.env.scope.names.lookup x = some .local) (hy : X.env.scope.names.lookup y = some .local) (hz : X.env.scope.names.lookup z = some .local) (ha : PA X [a, b, c] (tAm X.K mas))
    (hw : swappedStores [.Tuple [.Name x px, .Name y py, .Name z pz] kt pt] (.Tuple [a, b, c] k2 pt2) X.env = pure (some [x, y, z])) :
    PS X (.Assign [.Tuple [.Name x px, .Name y py, .Name z pz] kt pt] (.Tuple [a, b, c] k2 pt2) pos) (tSm X.K (sPar [i, j, l] mas)) := (ps_par3 hc hN hi hj hl hij hil hjl hx hy hz ha hw rfl).imp fun D σ H ⟨μ, ρ, h, f, ρ', h', R, N, e, k⟩ => by
  obtain ⟨⟨ds, h1⟩, e1, e⟩ := bind_some e
  refine ⟨μ, ρ, h, ds, h1, R, N, e1, fun μ1 H1 vs R1 S1 rs => ?_⟩
  split at e
  · rename_i hl
    cases e
    cases rs with
    | nil => cases hl
    | cons r1 r2 =>
      cases r2 with
      | nil => cases hl
      | cons r2 r3 =>
        cases r3 with
        | nil => cases hl
        | cons r3 r4 =>
          cases r4 with
          | cons _ _ => cases hl
          | nil => exact ⟨_, _, _, rfl, k μ1 H1 R1 S1 _ ((((N.mono S1).set r1 i).set r2 j).set r3 l)⟩
  · cases e
end
end MP

/-! text Mini12 -/
set_option Elab.async false
set_option linter.all false
set_option maxRecDepth 100000
set_option maxHeartbeats 4000000
namespace MP
open PySem PySem.Spec PyProof.Rows
open L2 hiding St

/-! ### from the text to what is run -/
structure CP where
  E : CT → Expr → EM
  T : CT → Expr → BM
  I : CT → Expr → Expr → IM
  G : CT → Expr → GM
  J : CT → Expr → List Nat
  S : CT → Stmt → SM
noncomputable section
def CP.zero : CP := ⟨fun _ _ => mNo, fun _ _ => bNo, fun _ _ _ => iNo, fun _ _ => gNo, fun _ _ => [], fun _ _ => sNo⟩
def binO : Operator → Option O2
  | .Add => some addD
  | .Sub => some subD
  | .Mult => some mulD
  | .Mod => some modD
  | .FloorDiv => some fdivD
  | .Pow => some powD
  | _ => none
def cmpO : CmpOp → O2
  | .Eq => eqO
  | .NotEq => neO
  | .Lt => ltO
  | .LtE => leO
  | .Gt => gtO
  | .GtE => geO
  | .Is => isO
  | .IsNot => isNotO
  | .In => inO
  | .NotIn => notInO
def iaddO : O2 := fun x y h => match x, y with
  | .int i, .int j => some (.int (i + j), h)
  | .str a, .str b => if a.length + b.length ≤ sizeLine then some (.str (a ++ b), h) else none
  | _, _ => none
def isubO : O2 := fun x y h => match x, y with
  | .int i, .int j => some (.int (i - j), h)
  | _, _ => none
def augO : Operator → Option O2
  | .Add => some iaddO
  | .Sub => some isubO
  | _ => none
section
variable (p : CP) (c : CT)
def argsM : List Expr → AM
  | [] => aNil
  | e :: es => aCons (p.E c e) (argsM es)
def andE : List Expr → EM
  | [] => mNo
  | [a] => p.E c a
  | a :: r => mAndV (p.E c a) (andE r)
def orE : List Expr → EM
  | [] => mNo
  | [a] => p.E c a
  | a :: r => mOrV (p.E c a) (orE r)
def andT : List Expr → BM
  | [] => bNo
  | [a] => p.T c a
  | a :: r => bAnd (p.T c a) (andT r)
def orT : List Expr → BM
  | [] => bNo
  | [a] => p.T c a
  | a :: r => bOr (p.T c a) (orT r)
def constE : Const → EM
  | .int i => mC (.int i)
  | .str x => mC (.str x)
  | .bool b => mC (.bl b)
  | .none => mC .non
  | _ => mNo
def nameE (x : Str) : EM :=
  if isVis c x = true ∧ (x == ("__debug__" : Str)) = false ∧ (x == ("__classdict__" : Str)) = false then match ixOf c.N x with
    | some i => mVar i
    | none => mNo
  else if isGl c x = true ∧ (x == ("__debug__" : Str)) = false then match c.C.lookup x with
    | some d => mC d
    | none => if x ∈ c.B then match tyOf x with
        | some n => mC (.ty n)
        | none => mNo
      else mNo
  else mNo
def cmpE (a : Expr) (ops : List CmpOp) (bs : List Expr) : EM := match ops, bs with
  | [op], [b] => if noSetE b = true then mOp2 (cmpO op) (p.E c a) (p.E c b) else mNo
  | [op, op'], [b, b'] => if noSetE b' = true then mChain (cmpO op) (cmpO op') (p.E c a) (p.E c b) (p.E c b') else mNo
  | _, _ => mNo
def partE : Option Expr → PM
  | none => pNo
  | some e => pInt (p.E c e)
def subE (a b : Expr) : EM := match b with
  | .Slice lo hi none _ => mSl (p.E c a) (partE p c lo) (partE p c hi)
  | b => if notSlice b = true then mOp2 ixO (p.E c a) (p.E c b) else mNo
def callE (x : Str) (es : List Expr) : EM :=
  if isGl c x = true ∧ es.all notStar = true ∧ (x == ("__debug__" : Str)) = false then match c.T.lookup (x, es.length) with
    | some F => mCallF es.length F (argsM p c es)
    | none => if x ∈ c.B ∧ es ≠ [] then match bltN x with
        | some g => mCallN g (argsM p c es)
        | none => mNo
      else mNo
  else mNo
def methE (o : Expr) (m : Str) (apos : Pos) (es : List Expr) (pos : Pos) : EM :=
  if plainBase o = true ∧ es.all notStar = true ∧ es.length < 28 ∧ (apos.endLine == pos.line) = true then match methL m with
    | some (ty, g) => mMeth ty g (p.E c o) (argsM p c es)
    | none => mNo
  else mNo
/-- a block's own names and their places -/
def ownOf (N : List Str) : List (Str × NameKind) → List (Str × Nat)
  | [] => []
  | (x, .local) :: r => (match ixOf N x with
    | some i => [(x, i)]
    | none => []) ++ ownOf N r
  | (x, .cell) :: r => (match ixOf N x with
    | some i => [(x, i)]
    | none => []) ++ ownOf N r
  | _ :: r => ownOf N r
def testsM : List Expr → BM
  | [] => bYes
  | [t] => p.T c t
  | _ => bNo
def lcE (elt : Expr) (gens : List Comprehension) (scope : Scope) : EM := match gens with
  | [⟨tg, it, ifs, 0⟩] => if blkC c.N c.sc scope (ownOf c.N scope.names) = true ∧ noSetE it = true ∧ (p.J (c.blk scope) tg).all (fun i => decide (i ∈ (ownOf c.N scope.names).map (·.2))) = true ∧ ifs.length ≤ 1 then
      mLc (p.I c tg it) (p.G (c.blk scope) tg) (testsM p (c.blk scope) ifs) (p.E (c.blk scope) elt) ((ownOf c.N scope.names).map (·.2)) else mNo
  | _ => mNo
def stepE : Expr → EM
  | .Constant k _ _ => constE k
  | .Name x _ => nameE c x
  | .BinOp a op b _ => (match binO op with
    | some g => mOp2 g (p.E c a) (p.E c b)
    | none => mNo)
  | .UnaryOp .Not a _ => mNotV (p.E c a)
  | .UnaryOp .USub a _ => mOp1 negO (p.E c a)
  | .BoolOp .And es _ => andE p c es
  | .BoolOp .Or es _ => orE p c es
  | .IfExp t a b _ => mIf (p.T c t) (p.E c a) (p.E c b)
  | .Compare a ops bs _ => cmpE p c a ops bs
  | .Tuple es _ _ => if es.all notStar = true then mTup (argsM p c es) else mNo
  | .List es _ => if es.all notStar = true then mLst (argsM p c es) else mNo
  | .Subscript a b _ => subE p c a b
  | .Call (.Name x _) es [] _ => callE p c x es
  | .Call (.Attribute o m apos) es [] pos => methE p c o m apos es pos
  | .ListComp elt gens scope _ => lcE p c elt gens scope
  | _ => mNo
def stepT : Expr → BM
  | .UnaryOp .Not a _ => bNot (p.T c a)
  | .BoolOp .And es _ => andT p c es
  | .BoolOp .Or es _ => orT p c es
  | .Compare a ops bs _ => bBool (cmpE p c a ops bs)
  | e => if plainTest e = true then bTru (p.E c e) else bNo
def isTup : Expr → Bool
  | .Tuple .. => true
  | _ => false
def iterM (tg it : Expr) : IM := match it with
  | .Call (.Name x _) [a] [] _ => if x = ("range" : Str) ∧ isGl c x = true ∧ x ∈ c.B ∧ notStar a = true then iRange1 (p.E c a)
    else if x = ("enumerate" : Str) ∧ isGl c x = true ∧ x ∈ c.B ∧ notStar a = true ∧ isTup tg = true then iEnum (p.E c a) else iSeq (p.E c it)
  | .Call (.Name x _) [a, b] [] _ => if x = ("range" : Str) ∧ isGl c x = true ∧ x ∈ c.B ∧ notStar a = true ∧ notStar b = true then iRange2 (p.E c a) (p.E c b) else iSeq (p.E c it)
  | .Call (.Name x _) [a, b, d] [] _ => if x = ("range" : Str) ∧ isGl c x = true ∧ x ∈ c.B ∧ notStar a = true ∧ notStar b = true ∧ notStar d = true then iRange3 (p.E c a) (p.E c b) (p.E c d) else iSeq (p.E c it)
  | _ => iSeq (p.E c it)
def targM : List Expr → GsM
  | [] => gsNil
  | e :: es => gsCons (p.G c e) (targM es)
def targJ : List Expr → List Nat
  | [] => []
  | e :: es => p.J c e ++ targJ es
def stepG : Expr → GM
  | .Name x _ => if isSt c x = true then match ixOf c.N x with
      | some i => gVar i
      | none => gNo
    else gNo
  | .Tuple es _ _ => if es.all notStar = true then gTupM es.length (targM p c es) else gNo
  | .Subscript o i _ => if notSlice i = true then gSubM (p.E c o) (p.E c i) else gNo
  | _ => gNo
def stepJ : Expr → List Nat
  | .Name x _ => (match ixOf c.N x with
      | some i => [i]
      | none => [])
  | .Tuple es _ _ => targJ p c es
  | _ => []
def stmtsM : List Stmt → SM
  | [] => sNext
  | s :: ss => sSeq (p.S c s) (stmtsM ss)
/-- a comprehension's value stored into this name goes by the other road -/
def swapB (e : Expr) (x : Str) (px : Pos) : Bool := match e with
  | .ListComp _ _ sc _ => (kindIn c x == some .local) && (px.line == e.pos.line) && !(sc.names.any fun (n, k) => n == x && (k == .local || k == .cell))
  | _ => false
def parM (ts vs : List Expr) : SM := match ts, vs with
  | [.Name x _, .Name y _], [a, b] => (match ixOf c.N x, ixOf c.N y with
    | some i, some j => if kindIn c x = some .local ∧ kindIn c y = some .local ∧ i ≠ j ∧ [a, b].all notStar = true then sPar [i, j] (argsM p c [a, b]) else sNo
    | _, _ => sNo)
  | [.Name x _, .Name y _, .Name z _], [a, b, d] => (match ixOf c.N x, ixOf c.N y, ixOf c.N z with
    | some i, some j, some l => if kindIn c x = some .local ∧ kindIn c y = some .local ∧ kindIn c z = some .local ∧ i ≠ j ∧ i ≠ l ∧ j ≠ l ∧ [a, b, d].all notStar = true then sPar [i, j, l] (argsM p c [a, b, d]) else sNo
    | _, _, _ => sNo)
  | _, _ => sNo
def nameOf : Expr → Option Str
  | .Name x _ => some x
  | _ => none
def asgM (tg e : Expr) : SM := match tg with
  | .Name x px => if isSt c x = true then match ixOf c.N x with
      | some i => (match e with
        | .ListComp elt gens scope _ => sSet (lcE p c elt gens scope) (gVar i)
        | _ => if notComp e = true then sSet (p.E c e) (gVar i) else sNo)
      | none => sNo
    else sNo
  | .Tuple ts _ _ => (match e with
    | .Tuple vs _ _ => (match swP c.sc ts vs with
      | some none => sSet (p.E c e) (p.G c tg)
      | some (some ns) => if ts.map nameOf = ns.map some then parM p c ts vs else sNo
      | none => sNo)
    | _ => if notComp e = true then sSet (p.E c e) (p.G c tg) else sNo)
  | .Subscript .. => if notComp e = true then sSet (p.E c e) (p.G c tg) else sNo
  | _ => sNo
def stepS : Stmt → SM
  | .Expr e _ => if notComp e = true then sExpr (p.E c e) else sNo
  | .Return (some e) _ => sRet (p.E c e)
  | .Return none _ => sRetN
  | .Assign [tg] e _ => asgM p c tg e
  | .AugAssign (.Name x _) op e _ => if isSt c x = true then match ixOf c.N x, augO op with
      | some i, some g => sAug i (p.E c e) g
      | _, _ => sNo
    else sNo
  | .If t a b _ => sIf (p.T c t) (stmtsM p c a) (stmtsM p c b)
  | .For tg it body [] _ => if noSetE it = true then sFor (p.I c tg it) (p.G c tg) (stmtsM p c body) else sNo
  | .While t body [] _ => sWhile (p.T c t) (stmtsM p c body)
  | .Pass _ => sNext
  | .Break _ => sBreak
  | .Continue _ => sCont
  | _ => sNo
end
def CP.next (p : CP) : CP := ⟨stepE p, stepT p, iterM p, stepG p, stepJ p, stepS p⟩
def comp : Nat → CP
  | 0 => .zero
  | n + 1 => (comp n).next
end

/-! ### it is right -/
structure CPok (p : CP) : Prop where
  E : ∀ c X e, CtOk c X → PE X e (tEm X.K (p.E c e))
  T : ∀ c X e, CtOk c X → PT X e (tBm X.K (p.T c e))
  I : ∀ c X tg it, CtOk c X → PI X tg it (tIm X.K (p.I c tg it))
  G : ∀ c X tg, CtOk c X → PG X tg (tGm X.K (p.J c tg) (p.G c tg))
  S : ∀ c X st, CtOk c X → PS X st (tSm X.K (p.S c st))
theorem zero_ok : CPok .zero where
  E := fun _ _ _ _ => pe_no
  T := fun _ _ _ _ => pt_no
  I := fun _ _ _ _ _ => pi_no
  G := fun _ _ _ _ => pg_no
  S := fun _ _ _ _ => ps_no
section
variable {p : CP} {c : CT} {X : Cx} {e : Expr} {es : List Expr} {pos : Pos}
theorem args_ok (P : CPok p) (ok : CtOk c X) : ∀ {es : List Expr}, es.all notStar = true → PA X es (tAm X.K (argsM p c es))
  | [], _ => pa_0
  | e :: es, h => by
    rw [List.all_cons, Bool.and_eq_true] at h
    exact pa_1 (P.E c X e ok) (args_ok P ok h.2) (star_one h.1)
theorem andE_ok (P : CPok p) (ok : CtOk c X) : ∀ es : List Expr, PE X (.BoolOp .And es pos) (tEm X.K (andE p c es))
  | [] => pe_no
  | [a] => pe_one (P.E c X a ok)
  | a :: b :: r => pe_and2 (P.E c X a ok) (andE_ok P ok (b :: r))
theorem orE_ok (P : CPok p) (ok : CtOk c X) : ∀ es : List Expr, PE X (.BoolOp .Or es pos) (tEm X.K (orE p c es))
  | [] => pe_no
  | [a] => pe_one (P.E c X a ok)
  | a :: b :: r => pe_or2 (P.E c X a ok) (orE_ok P ok (b :: r))
theorem andT_ok (P : CPok p) (ok : CtOk c X) : ∀ es : List Expr, PW X (.BoolOp .And es pos) (tBm X.K (andT p c es))
  | [] => pw_no
  | [a] => pw_and1 (P.T c X a ok)
  | a :: b :: r => pw_and2 (P.T c X a ok) (andT_ok P ok (b :: r))
theorem orT_ok (P : CPok p) (ok : CtOk c X) : ∀ es : List Expr, PW X (.BoolOp .Or es pos) (tBm X.K (orT p c es))
  | [] => pw_no
  | [a] => pw_or1 (P.T c X a ok)
  | a :: b :: r => pw_or2 (P.T c X a ok) (orT_ok P ok (b :: r))
theorem const_ok (k : Const) (j : Nat) : PE X (.Constant k j pos) (tEm X.K (constE k)) := by
  cases k with
  | int i => exact pe_C pe_int fun _ _ => .int i
  | str x => exact pe_C pe_str fun _ _ => .str x
  | bool b => exact pe_C pe_bl fun _ _ => .bl b
  | none => exact pe_C pe_non fun _ _ => .non
  | _ => exact pe_no
theorem name_ok (ok : CtOk c X) (x : Str) : PE X (.Name x pos) (tEm X.K (nameE c x)) := by
  unfold nameE
  split
  · rename_i h
    split
    · rename_i i hi
      exact pe_V (pe_var (by rw [ok.N]; exact ixOf_ok hi) (ok.vis h.1) h.2.1 h.2.2)
    · exact pe_no
  · split
    · rename_i h
      split
      · rename_i d hd
        obtain ⟨u, v, h1, h2, h3⟩ := ok.C x d hd
        exact pe_C (pe_glob (ok.gl h.1) h1 h2 h.2) h3
      · split
        · rename_i hB
          split
          · rename_i n hn
            obtain ⟨h1, h2, h3⟩ := tyOf_ok hn
            exact pe_C (pe_bltn (v := .ty n) (ok.gl h.1) (ok.B x hB) h1 rfl h2 h3) fun _ _ => .ty n
          · exact pe_no
        · exact pe_no
    · exact pe_no
theorem bin_ok {op : Operator} {g : O2} (h : binO op = some g) : OpR X (binaryOp op) (g2 X.K g) := by
  cases op <;> first | (cases h; done) | skip
  · cases h; exact add_ok
  · cases h; exact sub_ok
  · cases h; exact mul_ok
  · cases h; exact mod_ok
  · cases h; exact pow_ok
  · cases h; exact fdiv_ok
theorem cmp_ok (hu : X.A.units + 65 < cLine) (op : CmpOp) : OpR X (compareOp op) (g2 X.K (cmpO op)) := by
  cases op
  · exact eq_ok (by omega)
  · exact ne_ok (by omega)
  · exact lt_ok
  · exact le_ok
  · exact gt_ok
  · exact ge_ok
  · exact is_ok
  · exact isNot_ok
  · exact in_ok hu
  · exact notIn_ok hu
theorem aug_ok {op : Operator} {g : O2} (h : augO op = some g) : OpR X (inplaceOp op) (g2 X.K g) := by
  cases op <;> first | (cases h; done) | skip
  · cases h
    exact op_of fun μ h H x y d h' vx vy Q R r1 r2 e k => by
      unfold iaddO at e
      split at e
      · cases e; cases r1; cases r2
        exact ⟨_, iop_add, _, _, rfl, rfl, k.val R (.int _)⟩
      · split at e
        · cases e; cases r1; cases r2
          rename_i hz
          exact ⟨_, iop_add_str, _, _, rfl, rfl, hz, k.val R (.str _)⟩
        · cases e
      · cases e
  · cases h
    exact op_of fun μ h H x y d h' vx vy Q R r1 r2 e k => by
      unfold isubO at e
      split at e
      · cases e; cases r1; cases r2
        exact ⟨_, iop_sub, _, _, rfl, rfl, k.val R (.int _)⟩
      · cases e
theorem cmpE_ok (P : CPok p) (ok : CtOk c X) (a : Expr) (ops : List CmpOp) (bs : List Expr) : PE X (.Compare a ops bs pos) (tEm X.K (cmpE p c a ops bs)) := by
  unfold cmpE
  split
  · split
    · rename_i h
      exact pe_cmp2 (cmp_ok ok.hu _) (P.E c X _ ok) (P.E c X _ ok) (set_marks h)
    · exact pe_no
  · split
    · rename_i h
      exact pe_chain2 (cmp_ok ok.hu _) (cmp_ok ok.hu _) (P.E c X _ ok) (P.E c X _ ok) (P.E c X _ ok) (set_marks h)
    · exact pe_no
  · exact pe_no
theorem part_ok (P : CPok p) (ok : CtOk c X) (o : Option Expr) : PO X o (tPm X.K (partE p c o)) := by
  cases o with
  | none => exact po_0
  | some e => exact po_1 (P.E c X e ok)
theorem sub_ok' (P : CPok p) (ok : CtOk c X) (a b : Expr) : PE X (.Subscript a b pos) (tEm X.K (subE p c a b)) := by
  unfold subE
  split
  · exact pe_sl2 (P.E c X a ok) (part_ok P ok _) (part_ok P ok _)
  · split
    · rename_i h
      exact pe_ix2 (P.E c X a ok) (P.E c X _ ok) (plain_ix h)
    · exact pe_no
theorem call_ok' (P : CPok p) (ok : CtOk c X) {fp : Pos} (x : Str) (es : List Expr) : PE X (.Call (.Name x fp) es [] pos) (tEm X.K (callE p c x es)) := by
  unfold callE
  split
  · rename_i h
    obtain ⟨h1, h2, h3⟩ := h
    split
    · rename_i F hF
      obtain ⟨k, f, fd, ps, ds, dvs, sp, G, hr, hm, hk, hb, hd, hs⟩ := (ok.T x _ F hF).ex
      have go : ∀ σ H Q, tEm X.K (mCallF es.length F (argsM p c es)) σ H Q → tCall sp dvs E0 (tAm X.K (argsM p c es)) σ H Q := fun σ H Q ⟨μ, ρ, h, d, h', R, N, e, kk⟩ => by
        obtain ⟨⟨xs, h1⟩, e1, e⟩ := bind_some e
        split at e
        · rename_i hl
          refine ⟨μ, ρ, h, xs, h1, R, N, e1, fun μ1 H1 vs R1 S1 rs => hs vs H1 Q (by rw [← rs.length]; exact hl) ⟨μ1, h1, xs, d, h', R1, rs, e, fun μ2 H2 v R2 S2 rv => kk μ2 H2 v R2 (S1.trans S2) rv⟩⟩
        · cases e
      cases es with
      | nil =>
        refine (pe_call0 G hr (ok.gl h1) hm hk hb hd pass0 h3).imp fun σ H Q t => ?_
        obtain ⟨μ, ρ, h, ds', h1', R, N, e1, kk⟩ := go σ H Q t
        cases e1
        exact kk μ H [] R (Stp.refl ..) .nil
      | cons e es =>
        have h2' := h2
        rw [List.all_cons, Bool.and_eq_true] at h2'
        exact (pe_call G hr (ok.gl h1) hm hk hb hd pass0 (args_ok P ok h2) h3 (star_one h2'.1) (star_any h2'.2)).imp go
    · split
      · rename_i hB
        split
        · rename_i g hg
          cases es with
          | nil => exact absurd rfl hB.2
          | cons e es =>
            have h2' := h2
            rw [List.all_cons, Bool.and_eq_true] at h2'
            obtain ⟨n1, n2, n3⟩ := bltN_ok (X := X) ok.calm hg
            rcases n3 with ⟨id, b1, b2⟩ | ⟨T, b1, b2⟩
            · exact (pe_callB b2 (ok.gl h1) (ok.B x hB.1) b1 (args_ok P ok h2) n1 n2 (star_one h2'.1) (star_any h2'.2)).imp fun σ H Q t => cb_to t
            · exact (pe_callTy b2 (ok.gl h1) (ok.B x hB.1) b1 (args_ok P ok h2) n1 n2 (star_one h2'.1) (star_any h2'.2)).imp fun σ H Q t => cb_to t
        · exact pe_no
      · exact pe_no
  · exact pe_no
theorem meth_ok' (P : CPok p) (ok : CtOk c X) (o : Expr) (m : Str) (apos : Pos) (es : List Expr) : PE X (.Call (.Attribute o m apos) es [] pos) (tEm X.K (methE p c o m apos es pos)) := by
  unfold methE
  split
  · rename_i h
    obtain ⟨h1, h2, h3, h4⟩ := h
    split
    · rename_i ty g hg
      obtain ⟨T, id, m1, m2, m3, m4, m5⟩ := (methL_ok (X := X) hg).ex
      cases es with
      | nil => exact pe_meth20 m1 m2 m3 m4 m5 (P.E c X o ok) (plain_base h1) h4
      | cons e es =>
        have h2' := h2
        rw [List.all_cons, Bool.and_eq_true] at h2'
        refine pe_meth2 m1 m2 m3 m4 m5 (P.E c X o ok) (args_ok P ok h2) (plain_base h1) ?_ h4 (star_one h2'.1) (star_any h2'.2)
        rw [star_all h2]
        have h3' : (e :: es).length < 30 := by omega
        simp only [Bool.true_and, Bool.and_true, List.length_nil, List.isEmpty_nil, Nat.add_zero, if_pos]
        show ((backToKw pos ([] : List (Option Str × Sem Value))).all _ && decide ((e :: es).length < 30)) = true
        rw [decide_eq_true h3']
        rfl
    · exact pe_no
  · exact pe_no
theorem tests_ok (P : CPok p) (ok : CtOk c X) (ifs : List Expr) (h : ifs.length ≤ 1) : PTs X ifs (tBm X.K (testsM p c ifs)) := by
  match ifs, h with
  | [], _ => exact pts_0
  | [t], _ => exact pts_one (P.T c X t ok)
theorem own_kind {N : List Str} {sc scope : Scope} {own : List (Str × Nat)} (h : blkC N sc scope own = true) : scope.kind = .function := (blkOk_by h).kind
theorem lc_ok (P : CPok p) (ok : CtOk c X) (elt : Expr) (gens : List Comprehension) (scope : Scope) : PE X (.ListComp elt gens scope pos) (tEm X.K (lcE p c elt gens scope)) := by
  unfold lcE
  split
  · rename_i tg it ifs
    split
    · rename_i h
      obtain ⟨h1, h2, h3, h4⟩ := h
      have hk := own_kind h1
      have hb : BlkOk X.N X.env.scope scope (ownOf c.N scope.names) := by rw [ok.N, ok.sc]; exact blkOk_by h1
      refine (pe_lc (g := tGm X.K _ _) ok.calm (by rw [ok.N]; exact ok.nd) (P.I c X tg it ok) hb (fun s H C cl fp => P.G (c.blk scope) _ tg (ok.blk scope hk s H C cl fp)) (fun s H C cl fp => tests_ok P (ok.blk scope hk s H C cl fp) ifs h4)
        (fun s H C cl fp => P.E (c.blk scope) _ elt (ok.blk scope hk s H C cl fp)) (fun x => set_fold h2 x)).imp fun σ H Q t => lc_to (fun i hi => ?_) t
      have := List.all_eq_true.mp h3 i hi
      exact of_decide_eq_true this
    · exact pe_no
  · exact pe_no
theorem stepE_ok (P : CPok p) (ok : CtOk c X) (e : Expr) : PE X e (tEm X.K (stepE p c e)) := by
  unfold stepE
  split
  · exact const_ok _ _
  · exact name_ok ok _
  · split
    · rename_i g hg
      exact pe_2 (bin_ok hg) (P.E c X _ ok) (P.E c X _ ok)
    · exact pe_no
  · exact pe_not2 (P.E c X _ ok)
  · exact pe_neg2 (P.E c X _ ok)
  · exact andE_ok P ok _
  · exact orE_ok P ok _
  · exact pe_if2 (P.T c X _ ok) (P.E c X _ ok) (P.E c X _ ok)
  · exact cmpE_ok P ok _ _ _
  · split
    · exact pe_tup2 (args_ok P ok (by assumption))
    · exact pe_no
  · split
    · exact pe_lst2 (args_ok P ok (by assumption))
    · exact pe_no
  · exact sub_ok' P ok _ _
  · exact call_ok' P ok _ _
  · exact meth_ok' P ok _ _ _ _
  · exact lc_ok P ok _ _ _
  · exact pe_no
end
end MP

/-! text Mini13 -/
set_option Elab.async false
set_option linter.all false
set_option maxRecDepth 100000
set_option maxHeartbeats 4000000
namespace MP
open PySem PySem.Spec PyProof.Rows
open L2 hiding St
section
variable {p : CP} {c : CT} {X : Cx} {e : Expr} {es : List Expr} {pos : Pos}
theorem pt_noE : PT X e (tBm X.K (bBool mNo)) := ⟨fun pins s σ H Q I ⟨_, _, _, _, _, _, _, z, _⟩ => nomatch z⟩
theorem cmpT_ok (P : CPok p) (ok : CtOk c X) (a : Expr) (ops : List CmpOp) (bs : List Expr) : PT X (.Compare a ops bs pos) (tBm X.K (bBool (cmpE p c a ops bs))) := by
  unfold cmpE
  split
  · split
    · rename_i h
      exact pt_cmp2 (cmp_ok ok.hu _) (P.E c X _ ok) (P.E c X _ ok) (set_marks h)
    · exact pt_noE
  · split
    · rename_i h
      exact pt_chain2 (cmp_ok ok.hu _) (cmp_ok ok.hu _) (P.E c X _ ok) (P.E c X _ ok) (P.E c X _ ok) (set_marks h)
    · exact pt_noE
  · exact pt_noE
theorem stepT_ok (P : CPok p) (ok : CtOk c X) (e : Expr) : PT X e (tBm X.K (stepT p c e)) := by
  unfold stepT
  split
  · exact pt_not2 (P.T c X _ ok)
  · exact (andT_ok P ok _).pt
  · exact (orT_ok P ok _).pt
  · exact cmpT_ok P ok _ _ _
  · split
    · rename_i h
      exact pt_tru (P.E c X _ ok) (plain_test h)
    · exact pt_no
theorem iter_ok (P : CPok p) (ok : CtOk c X) (tg it : Expr) : PI X tg it (tIm X.K (iterM p c tg it)) := by
  unfold iterM
  split
  · rename_i x fp a pos
    split
    · rename_i h
      obtain ⟨rfl, h2, h3, h4⟩ := h
      exact pi_range1' (ok.gl h2) (ok.B _ h3) (pa_1 (P.E c X _ ok) pa_0 (star_one h4)) (star_one h4)
    · split
      · rename_i h
        obtain ⟨rfl, h2, h3, h4, h5⟩ := h
        cases tg <;> first | (cases h5; done) | skip
        exact pi_enum2 (ok.gl h2) (ok.B _ h3) (pa_1 (P.E c X _ ok) pa_0 (star_one h4)) (star_one h4)
      · exact pi_seq (P.E c X _ ok)
  · split
    · rename_i h
      obtain ⟨rfl, h2, h3, h4, h5⟩ := h
      exact pi_range2' (ok.gl h2) (ok.B _ h3) (pa_1 (P.E c X _ ok) (pa_1 (P.E c X _ ok) pa_0 (star_one h5)) (star_one h4)) ((star_one h4).trans (congrArg _ (star_one h5))) (star_one h5)
    · exact pi_seq (P.E c X _ ok)
  · rename_i x fp a b d pos
    split
    · rename_i h
      obtain ⟨rfl, h2, h3, h4, h5, h6⟩ := h
      have ha : [b, d].all notStar = true := by
        rw [List.all_cons, List.all_cons, h5, h6]
        rfl
      exact pi_range3' (ok.gl h2) (ok.B _ h3) (pa_1 (P.E c X _ ok) (pa_1 (P.E c X _ ok) (pa_1 (P.E c X _ ok) pa_0 (star_one h6)) (star_one h5)) (star_one h4)) (star_one h4) (star_any ha)
    · exact pi_seq (P.E c X _ ok)
  · exact pi_seq (P.E c X _ ok)
theorem targ_ok (P : CPok p) (ok : CtOk c X) : ∀ {es : List Expr}, es.all notStar = true → PGs X es (tGsm X.K (targJ p c es) (targM p c es))
  | [], _ => pgs_0
  | e :: es, h => by
    rw [List.all_cons, Bool.and_eq_true] at h
    exact pgs_1 (P.G c X e ok) (targ_ok P ok h.2) (asg_map h.1)
theorem stepG_ok (P : CPok p) (ok : CtOk c X) (tg : Expr) : PG X tg (tGm X.K (stepJ p c tg) (stepG p c tg)) := by
  unfold stepG stepJ
  cases tg <;> first | exact pg_no | skip
  · -- o[i]
    dsimp only
    split
    · rename_i h
      exact pg_sub2 (P.E c X _ ok) (P.E c X _ ok) (assign_sub h)
    · exact pg_no
  · -- a name
    rename_i x px
    dsimp only
    cases hi : ixOf c.N x with
    | none =>
      dsimp only
      split <;> exact pg_no
    | some i =>
      dsimp only
      split
      · rename_i h
        obtain ⟨s1, s2⟩ := ok.st h
        exact pg_var (pg_name (by rw [ok.N]; exact ok.nd) (by rw [ok.N]; exact ixOf_ok hi) s1 s2)
      · exact pg_no
  · -- a tuple
    dsimp only
    split
    · rename_i h
      exact pg_tup2 ok.calm (targ_ok P ok h) (asg_len h) (asg_star h)
    · exact pg_no
theorem stmts_ok (P : CPok p) (ok : CtOk c X) : ∀ ss : List Stmt, PSs X ss (tSm X.K (stmtsM p c ss))
  | [] => pss_0
  | s :: ss => pss_1 (P.S c X s ok) (stmts_ok P ok ss)
theorem par_ok (P : CPok p) (ok : CtOk c X) {ts vs : List Expr} {ns : List Str} {k k2 : Nat} {pt p2 : Pos} (hw : swappedStores [.Tuple ts k pt] (.Tuple vs k2 p2) X.env = pure (some ns)) (hn : ts.map nameOf = ns.map some) :
    PS X (.Assign [.Tuple ts k pt] (.Tuple vs k2 p2) pos) (tSm X.K (parM p c ts vs)) := by
  have loc : ∀ {x : Str}, kindIn c x = some .local → X.env.scope.names.lookup x = some .local := fun {x} h => by rw [ok.sc]; exact h
  unfold parM
  split
  · rename_i x px y py a b
    split
    · rename_i i j hi hj
      split
      · rename_i h
        obtain ⟨h1, h2, h3, h4⟩ := h
        have en : ns = [x, y] := by
          have := hn
          match ns, this with
          | [u, v], this =>
            simp only [List.map_cons, List.map_nil, nameOf, List.cons.injEq, Option.some.injEq] at this
            rw [this.1, this.2.1]
          | [], this => simp at this
          | [_], this => simp at this
          | _ :: _ :: _ :: _, this => simp at this
        rw [en] at hw
        exact ps_p2 ok.calm (by rw [ok.N]; exact ok.nd) (by rw [ok.N]; exact ixOf_ok hi) (by rw [ok.N]; exact ixOf_ok hj) h3 (loc h1) (loc h2) (args_ok P ok h4) hw
      · exact ps_no
    · exact ps_no
  · rename_i x px y py z pz a b d
    split
    · rename_i i j l hi hj hl
      split
      · rename_i h
        obtain ⟨h1, h2, h3, h4, h5, h6, h7⟩ := h
        have en : ns = [x, y, z] := by
          have := hn
          match ns, this with
          | [u, v, w], this =>
            simp only [List.map_cons, List.map_nil, nameOf, List.cons.injEq, Option.some.injEq] at this
            rw [this.1, this.2.1, this.2.2.1]
          | [], this => simp at this
          | [_], this => simp at this
          | [_, _], this => simp at this
          | _ :: _ :: _ :: _ :: _, this => simp at this
        rw [en] at hw
        exact ps_p3 ok.calm (by rw [ok.N]; exact ok.nd) (by rw [ok.N]; exact ixOf_ok hi) (by rw [ok.N]; exact ixOf_ok hj) (by rw [ok.N]; exact ixOf_ok hl) h4 h5 h6 (loc h1) (loc h2) (loc h3) (args_ok P ok h7) hw
      · exact ps_no
    · exact ps_no
  · exact ps_no
theorem sw_false {elt : Expr} {gs : List Comprehension} {scope : Scope} {ps px : Pos} {x : Str} {l : Nat} {env : Env} (hk : env.scope.kind = .function)
    (h : ((env.scope.names.lookup x == some .local) && (px.line == ps.line) && !(scope.names.any fun (n, k) => n == x && (k == .local || k == .cell))) = false) : swapsWith (.ListComp elt gs scope ps) (some (.Name x px)) l env = pure false := by
  have hb : env.blockKind = .function := by unfold Env.blockKind; rw [hk]; rfl
  unfold swapsWith Env.kindOf
  simp only [hb, Expr.pos]
  exact congrArg pure h
theorem ps_noSet {st : Stmt} {g : GM} : PS X st (tSm X.K (sSet mNo g)) := ⟨fun pins s σ H Q I ⟨_, _, _, _, _, _, _, _, z, _⟩ => nomatch z⟩
theorem asg_lc (P : CPok p) (ok : CtOk c X) {x : Str} {px : Pos} {i : Nat} {elt : Expr} {gens : List Comprehension} {scope : Scope} {ps : Pos} (hs : isSt c x = true) (hi : ixOf c.N x = some i) :
    PS X (.Assign [.Name x px] (.ListComp elt gens scope ps) pos) (tSm X.K (sSet (lcE p c elt gens scope) (gVar i))) := by
  obtain ⟨s1, s2⟩ := ok.st hs
  have hN : X.N.Nodup := by rw [ok.N]; exact ok.nd
  have hiN : X.N[i]? = some x := by rw [ok.N]; exact ixOf_ok hi
  have hk : X.env.scope.kind = .function := by rw [ok.sc]; exact ok.kd
  cases hsw : ((X.env.scope.names.lookup x == some .local) && (px.line == ps.line) && !(scope.names.any fun (n, k) => n == x && (k == .local || k == .cell))) with
  | false => exact ps_set2 hN hiN s1 (lc_ok P ok elt gens scope) (sw_false hk hsw) s2
  | true =>
    rw [Bool.and_eq_true, Bool.and_eq_true, Bool.not_eq_true', beq_iff_eq] at hsw
    obtain ⟨⟨w1, w2⟩, w3⟩ := hsw
    have hsw' : ∀ {elt : Expr} {gens : List Comprehension}, swapsWith (.ListComp elt gens scope ps) (some (.Name x px)) pos.line X.env = pure true := sw_true hk w1 w2 w3
    unfold lcE
    split
    · rename_i tg it ifs
      split
      · rename_i h
        obtain ⟨h1, h2, h3, h4⟩ := h
        have hk2 := own_kind h1
        have hb : BlkOk X.N X.env.scope scope (ownOf c.N scope.names) := by rw [ok.N, ok.sc]; exact blkOk_by h1
        refine (ps_setLc (g := tGm X.K _ _) (tt := tBm X.K (testsM p (c.blk scope) ifs)) (te := tEm X.K (p.E (c.blk scope) elt)) ok.calm hN hiN w1 hsw' (P.I c X tg it ok) hb (fun s H C cl fp => P.G (c.blk scope) _ tg (ok.blk scope hk2 s H C cl fp)) (fun s H C cl fp => tests_ok P (ok.blk scope hk2 s H C cl fp) ifs h4)
          (fun s H C cl fp => P.E (c.blk scope) _ elt (ok.blk scope hk2 s H C cl fp)) (fun x => set_fold h2 x)).imp fun D σ H t => ?_
        obtain ⟨μ, ρ, h, f, ρ', h', R, N, e, k⟩ := t
        obtain ⟨⟨x0, h10⟩, e1, e⟩ := bind_some e
        cases e
        refine lc_to (fun i hi => of_decide_eq_true (List.all_eq_true.mp h3 i hi)) ⟨μ, ρ, h, x0, h10, R, N, e1, fun μ1 H1 vx R1 S1 rx => k μ1 H1 R1 S1 _ ((N.mono S1).set rx i)⟩
      · exact ps_noSet
    · exact ps_noSet
theorem asg_ok (P : CPok p) (ok : CtOk c X) (tg e : Expr) : PS X (.Assign [tg] e pos) (tSm X.K (asgM p c tg e)) := by
  have hk : X.env.scope.kind = .function := by rw [ok.sc]; exact ok.kd
  unfold asgM
  split
  · split
    · rename_i h
      split
      · rename_i i hi
        obtain ⟨s1, s2⟩ := ok.st h
        split
        · exact asg_lc P ok h hi
        · split
          · rename_i hn
            exact ps_set2 (by rw [ok.N]; exact ok.nd) (by rw [ok.N]; exact ixOf_ok hi) s1 (P.E c X _ ok) (swaps_no hn) s2
          · exact ps_no
      · exact ps_no
    · exact ps_no
  · split
    · split
      · rename_i hw
        rw [← ok.sc] at hw
        exact ps_asg' (P.E c X _ ok) (P.G c X _ ok) rfl (swP_ok hk hw) rfl
      · rename_i ns hw
        rw [← ok.sc] at hw
        split
        · rename_i hn
          exact par_ok P ok (swP_ok hk hw) hn
        · exact ps_no
      · exact ps_no
    · split
      · rename_i hn
        have ht : notTup e = true := by
          cases e <;> first | rfl | (rename_i h; exact absurd rfl (h _ _ _))
        exact ps_asg' (P.E c X _ ok) (P.G c X _ ok) (swaps_sole hn) (swapped_tup ht) rfl
      · exact ps_no
  · split
    · rename_i hn
      exact ps_asg' (P.E c X _ ok) (P.G c X _ ok) (swaps_sole hn) swapped_sub rfl
    · exact ps_no
  · exact ps_no
theorem stepS_ok (P : CPok p) (ok : CtOk c X) (st : Stmt) : PS X st (tSm X.K (stepS p c st)) := by
  unfold stepS
  split
  · split
    · rename_i hn
      exact ps_expr2 (P.E c X _ ok) (swaps_no hn)
    · exact ps_no
  · exact ps_ret2 (P.E c X _ ok)
  · exact ps_retN2
  · exact asg_ok P ok _ _
  · split
    · rename_i h
      split
      · rename_i i g hi hg
        obtain ⟨s1, s2⟩ := ok.st h
        exact ps_aug2 (by rw [ok.N]; exact ok.nd) (by rw [ok.N]; exact ixOf_ok hi) s1 (P.E c X _ ok) (aug_ok hg) s2
      · exact ps_no
    · exact ps_no
  · exact ps_if2 (P.T c X _ ok) (stmts_ok P ok _) (stmts_ok P ok _)
  · split
    · rename_i h
      exact ps_for2 ok.never ok.calm (P.I c X _ _ ok) (P.G c X _ ok) (stmts_ok P ok _) (fun x => set_fold h x)
    · exact ps_no
  · exact ps_while2 ok.never (P.T c X _ ok) (stmts_ok P ok _)
  · exact ps_nx ps_pass
  · exact ps_bk
  · exact ps_ct
  · exact ps_no
theorem next_ok (P : CPok p) : CPok p.next where
  E := fun c X e ok => stepE_ok P ok e
  T := fun c X e ok => stepT_ok P ok e
  I := fun c X tg it ok => iter_ok P ok tg it
  G := fun c X tg ok => stepG_ok P ok tg
  S := fun c X st ok => stepS_ok P ok st
end
theorem comp_ok : ∀ n, CPok (comp n)
  | 0 => zero_ok
  | n + 1 => next_ok (comp_ok n)

/-! ### a def -/
/-- what a def's body gives, by its statements -/
noncomputable def runF (m : SM) (size : Nat) : ON := fun ds h => match m (ds.map some ++ List.replicate (size - ds.length) none) h with
  | some (.rt d, _, h') => some (d, h')
  | some (.nx, _, h') => some (.non, h')
  | _ => none
/-- the def at st with N's slots, read by these tables -/
noncomputable def defM (n : Nat) (N : List Str) (C : List (Str × D)) (B : List Str) (T : List ((Str × Nat) × ON)) (st : Stmt) : SM := stmtsM (comp n) ⟨N, defScope st, none, C, B, T⟩ (defBody st)
section
variable {P : Program} {w : World} {K : PySem.W.Frag} {mg : Str → Option Value} {base : Heap}
/-- the constants, the built-in names: what is known of the module -/
structure ModOk (K : PySem.W.Frag) (mg : Str → Option Value) (C : List (Str × D)) (B : List Str) : Prop where
  C : ∀ x d, C.lookup x = some d → ∃ u v, mg x = some u ∧ RelV v u ∧ ∀ H μ, RV K H μ d v
  B : ∀ x, x ∈ B → mg x = none
/-- a def of the table, at level k -/
structure TFok (P : Program) (w : World) (K : PySem.W.Frag) (mg : Str → Option Value) (base : Heap) (k : Nat) (x : Str) (n : Nat) (F : ON) : Prop where
  ex : ∃ (f : Addr) (fd : FuncData) (ps : List Str) (ds : List Value) (dvs : List V) (sp : Sp), FnOk P w K mg base CX0 k f fd ps sp ∧ mg x = some (.ref f) ∧ PySem.W.keepIn K (.ref f) = true ∧ Binds K fd ps ds ∧ Vals dvs ds ∧
    ∀ vs H Q, vs.length = n → gN K F vs H Q → sp (vs ++ dvs) H Q E0
theorem TFok.mono {j k : Nat} {x : Str} {n : Nat} {F : ON} (t : TFok P w K mg base j x n F) (h : j ≤ k) : TFok P w K mg base k x n F := by
  obtain ⟨f, fd, ps, ds, dvs, sp, G, r⟩ := t.ex
  exact ⟨f, fd, ps, ds, dvs, sp, G.mono h, r⟩
theorem TFok.at {A : Around} {k : Nat} {x : Str} {n : Nat} {F : ON} (t : TFok P w K mg base k x n F) (hr : Room k A) : FOk P w K mg base A x n F := by
  obtain ⟨f, fd, ps, ds, dvs, sp, G, r⟩ := t.ex
  exact ⟨k, f, fd, ps, ds, dvs, sp, G, hr, r⟩
theorem rvs_start {H : Hp} {μ : List Addr} {ds : List D} {vs : List V} {N : List Str} (r : RVs K H μ ds vs) : REnv K H μ (ds.map some ++ List.replicate (N.length - ds.length) none) (L2.start N vs) := by
  have hl := r.length
  refine ⟨by unfold L2.start; simp [hl], fun i d e => ?_⟩
  by_cases hi : i < ds.length
  · rw [List.getElem?_append_left (by rw [List.length_map]; exact hi), List.getElem?_map] at e
    cases q : ds[i]? with
    | none => rw [q] at e; cases e
    | some d' =>
      rw [q] at e
      cases e
      obtain ⟨v, hv, rv⟩ := r.get q
      refine ⟨v, ?_, rv⟩
      unfold L2.start
      rw [List.getElem?_append_left (by rw [List.length_map, ← hl]; exact hi), List.getElem?_map, hv]
      rfl
  · rw [List.getElem?_append_right (by rw [List.length_map]; omega), List.length_map, List.getElem?_replicate] at e
    split at e <;> cases e
/-- THE RULE for a def without defaults -/
theorem def_ok {x qual : Str} {st : Stmt} {f : Addr} {fd : FuncData} {N ps : List Str} {C : List (Str × D)} {B : List Str} {T : List ((Str × Nat) × ON)} {k n : Nat} (F : L2.Fun K x qual st f fd) (S : FnScope N ps (defScope st)) (hm : ModOk K mg C B)
    (hT : ∀ y m G, T.lookup (y, m) = some G → TFok P w K mg base k y m G) : FnOk P w K mg base CX0 (k + 1) f fd ps (spF K ps.length (runF (defM n N C B T st) N.length)) := by
  refine F.ok S (fun vs H Q E h => h.1) fun cdv A outer s H vs Q E hr h => ?_
  refine ⟨_, stmts_ok (c := ⟨N, defScope st, none, C, B, T⟩) (comp_ok n) ?_ _, ?_⟩
  · exact {
      N := rfl
      nd := S.nd
      kd := S.kind
      sc := rfl
      fn := fun _ => rfl
      calm := rfl
      xe := rfl
      hu := by
        have := hr.un
        show (A.deeper _).units + 65 < cLine
        omega
      C := hm.C
      B := hm.B
      T := fun y m G e => (hT y m G e).at hr }
  · obtain ⟨hl, μ, h0, ds, d, h', R, r, e, kk⟩ := h
    unfold runF at e
    split at e
    · rename_i d0 ρ' h1 e1
      cases e
      exact ⟨μ, _, h0, _, _, _, R, rvs_start r, e1, fun μ1 H1 R1 S1 v rv => kk μ1 H1 v R1 S1 rv⟩
    · rename_i ρ' h1 e1
      cases e
      exact ⟨μ, _, h0, _, _, _, R, rvs_start r, e1, fun μ1 H1 R1 S1 σ' _ => kk μ1 H1 .non R1 S1 .non⟩
    · cases e
theorem def_tf {x : Str} {st : Stmt} {f : Addr} {fd : FuncData} {N ps : List Str} {C : List (Str × D)} {B : List Str} {T : List ((Str × Nat) × ON)} {k n : Nat} (F : L2.Fun K x x st f fd) (hg : mg x = some (.ref f)) (hb : Binds K fd ps []) (S : FnScope N ps (defScope st)) (hm : ModOk K mg C B)
    (hT : ∀ y m G, T.lookup (y, m) = some G → TFok P w K mg base k y m G) : TFok P w K mg base (k + 1) x ps.length (runF (defM n N C B T st) N.length) :=
  ⟨f, fd, ps, [], [], _, def_ok F S hm hT, hg, F.kp, hb, .nil, fun vs H Q hl q => ⟨by rw [List.append_nil]; exact hl, by rw [List.append_nil]; exact q⟩⟩
end
end MP

/-! text Mini14 -/
set_option Elab.async false
set_option linter.all false
set_option maxRecDepth 100000
set_option maxHeartbeats 4000000
namespace MP
open PySem PySem.Spec PyProof.Rows
open L2 hiding St
section
variable {P : Program} {w : World} {K : PySem.W.Frag} {mg : Str → Option Value} {base : Heap}
theorem toFun {x qual : Str} {st : Stmt} {f : Addr} {fd : FuncData} (F : FunD K x qual (defArgs st) (defBody st) (defScope st) [] [] f fd) : L2.Fun K x qual st f fd := by
  obtain ⟨oc, od, dV, kV, doc, pm, an, cdv, ct, osl, rfl, lk, hcd, hD, hK⟩ := F.ex
  rcases hD with ⟨_, rfl⟩ | ⟨e, _⟩
  · exact ⟨⟨oc, od, kV, doc, pm, an, cdv, ct, osl, rfl, lk, hcd⟩, F.kp⟩
  · exact absurd rfl e
/-- the def's own rule, from what the head tells -/
theorem def_of {x : Str} {st : Stmt} {f : Addr} {fd : FuncData} {N ps : List Str} {C : List (Str × D)} {B : List Str} {T : List ((Str × Nat) × ON)} {k n : Nat} {S : SM} (F : FunD K x x (defArgs st) (defBody st) (defScope st) [] [] f fd) (hg : mg x = some (.ref f))
    (hb : ∀ (kV doc pm : Value) (an : Option Addr) (cdv ct : Value) (us : List Value), us.length = ps.length → bindArgs (PySem.W.fnOf x x (defArgs st) (defBody st) (defScope st) .none kV doc pm an cdv ct) ⟨us, []⟩ = pure (ps.zip us))
    (sc : FnScope N ps (defScope st)) (hm : ModOk K mg C B) (hT : ∀ y m G, T.lookup (y, m) = some G → TFok P w K mg base k y m G) (e : defM n N C B T st = S) : TFok P w K mg base (k + 1) x ps.length (runF S N.length) := by
  rw [← e]
  exact def_tf (toFun F) hg (F.bindsN hb) sc hm hT
theorem law_of {x : Str} {st : Stmt} {f : Addr} {fd : FuncData} {N ps : List Str} {C : List (Str × D)} {B : List Str} {T : List ((Str × Nat) × ON)} {k n : Nat} {S : SM} (F : FunD K x x (defArgs st) (defBody st) (defScope st) [] [] f fd)
    (sc : FnScope N ps (defScope st)) (hm : ModOk K mg C B) (hT : ∀ y m G, T.lookup (y, m) = some G → TFok P w K mg base k y m G) (e : defM n N C B T st = S) : FnOk P w K mg base CX0 (k + 1) f fd ps (spF K ps.length (runF S N.length)) := by
  rw [← e]
  exact def_ok (toFun F) sc hm hT
theorem tl_nil {k : Nat} : ∀ y m G, List.lookup (y, m) ([] : List ((Str × Nat) × ON)) = some G → TFok P w K mg base k y m G := fun _ _ _ h => nomatch h
theorem tl_cons {j k : Nat} {x : Str} {n : Nat} {F : ON} {T : List ((Str × Nat) × ON)} (t : TFok P w K mg base j x n F) (h : j ≤ k) (r : ∀ y m G, T.lookup (y, m) = some G → TFok P w K mg base k y m G) :
    ∀ y m G, List.lookup (y, m) (((x, n), F) :: T) = some G → TFok P w K mg base k y m G := fun y m G e => by
  by_cases q : (y, m) = (x, n)
  · cases q
    rw [List.lookup_cons_self] at e
    cases e
    exact t.mono h
  · rw [List.lookup_cons, beq_eq_false_iff_ne.mpr q] at e
    exact r y m G e
/-- a def that calls nothing yet (the ground of a recursion) -/
theorem tf_none {x : Str} {st : Stmt} {f : Addr} {fd : FuncData} {N ps : List Str} {n : Nat} (F : FunD K x x (defArgs st) (defBody st) (defScope st) [] [] f fd) (hg : mg x = some (.ref f))
    (hb : ∀ (kV doc pm : Value) (an : Option Addr) (cdv ct : Value) (us : List Value), us.length = ps.length → bindArgs (PySem.W.fnOf x x (defArgs st) (defBody st) (defScope st) .none kV doc pm an cdv ct) ⟨us, []⟩ = pure (ps.zip us))
    (sc : FnScope N ps (defScope st)) (hn : n = ps.length) : TFok P w K mg base 1 x n (fun _ _ => none) := by
  subst hn
  have hm : ModOk K mg [] [] := ⟨fun _ _ h => (nomatch h), fun _ h => (nomatch h)⟩
  obtain ⟨f', fd', ps', ds, dvs, sp, G, g, kp, bd, vl, r⟩ := def_tf (n := 0) (T := []) (k := 0) (P := P) (w := w) (base := base) (toFun F) hg (F.bindsN hb) sc hm tl_nil
  exact ⟨f', fd', ps', ds, dvs, sp, G, g, kp, bd, vl, fun vs H Q _ h => by
    obtain ⟨_, _, _, _, _, _, _, z, _⟩ := h
    cases z⟩
/-! ### constants -/
theorem modOk_nil {B : List Str} (h : ∀ x ∈ B, mg x = none) : ModOk K mg [] B := ⟨fun _ _ h => (nomatch h), h⟩
theorem ModOk.cons {C : List (Str × D)} {B : List Str} {x : Str} {d : D} (m : ModOk K mg C B) (h : ∃ u v, mg x = some u ∧ RelV v u ∧ ∀ H μ, RV K H μ d v) : ModOk K mg ((x, d) :: C) B :=
  ⟨fun y e q => by
    by_cases z : y = x
    · cases z
      rw [List.lookup_cons_self] at q
      cases q
      exact h
    · rw [List.lookup_cons, beq_eq_false_iff_ne.mpr z] at q
      exact m.C y e q, m.B⟩
/-- plain values of a table -/
def dvD : D → Option He.Dv
  | .non => some .non
  | .bl b => some (.bl b)
  | .int i => some (.int i)
  | .str x => some (.str x)
  | _ => none
def dvDs : List D → Option (List He.Dv)
  | [] => some []
  | d :: ds => match dvD d, dvDs ds with
    | some v, some vs => some (v :: vs)
    | _, _ => none
theorem dvD_ok {d : D} {v : He.Dv} (h : dvD d = some v) (H : Hp) (μ : List Addr) : RV K H μ d (v.v K) := by
  cases d <;> first | (cases h; constructor) | cases h
theorem dvDs_ok : ∀ {ds : List D} {vs : List He.Dv}, dvDs ds = some vs → ∀ (H : Hp) (μ : List Addr), RVs K H μ ds (vs.map (He.Dv.v K))
  | [], vs, h, H, μ => by cases h; exact .nil
  | d :: ds, vs, h, H, μ => by
    unfold dvDs at h
    split at h
    · rename_i v vs' h1 h2
      cases h
      exact .cons (dvD_ok h1 H μ) (dvDs_ok h2 H μ)
    · cases h
theorem kts_of {a : Addr} {vs : List V} (h : ∀ H, SqT K H a vs) : KTs K a vs := by
  rcases h (fun _ => none) with r | r
  · rcases r with r | ⟨o, r⟩ <;> cases r
  · exact r
theorem con_int {x : Str} {i : Int} (h : ∃ t, mg x = some (.int i t)) : ∃ u v, mg x = some u ∧ RelV v u ∧ ∀ H μ, RV K H μ (.int i) v := by
  obtain ⟨t, e⟩ := h
  exact ⟨_, .int i, e, ⟨t, rfl⟩, fun _ _ => .int i⟩
theorem con_str {x z : Str} (h : ∃ t, mg x = some (.str z t)) : ∃ u v, mg x = some u ∧ RelV v u ∧ ∀ H μ, RV K H μ (.str z) v := by
  obtain ⟨t, e⟩ := h
  exact ⟨_, .str z, e, ⟨t, rfl⟩, fun _ _ => .str z⟩
theorem con_tup {x : Str} {ds : List D} {vs : List He.Dv} (hg : mg x = some (.ref (He.ga K x))) (ht : He.tupB K x vs = true) (e : dvDs ds = some vs) : ∃ u v, mg x = some u ∧ RelV v u ∧ ∀ H μ, RV K H μ (.tup ds) v :=
  ⟨_, .ref (He.ga K x), hg, rfl, fun H μ => .tup (.inr (kts_of fun H => He.tupB_ok ht H)) (dvDs_ok e H μ)⟩
/-! ### the law's promise -/
theorem frz_rel {H : Hp} {a : Addr} {ns : List Int} (ho : Only H) (h : SqL K H a (ns.map V.int)) : Rel K [a] [.frz ns] H := by
  refine ⟨rfl, fun n m b o o' e1 e2 e3 e4 f1 f2 => ?_, fun n b o e1 e2 => ?_⟩
  · match n, e3 with
    | 0, e3 => cases e3; cases f1
    | n + 1, e3 => cases e3
  · match n, e1, e2 with
    | 0, e1, e2 =>
      cases e1; cases e2
      rcases h with r | r
      · rcases r with r | ⟨o, r⟩
        · rcases ho a with z | ⟨o, xs, z⟩
          · rw [z] at r; cases r
          · rw [z] at r; cases r
        · exact .inl ⟨o, r⟩
      · exact .inr r
    | n + 1, e1, e2 => cases e2
theorem law_sp {F : ON} (hF : ∀ ns : List Int, ∃ h', F [.loc 0] [.frz ns] = some (.bl true, h')) (H : Hp) (a : Addr) (ns : List Int) (ho : Only H) (hS : SqL K H a (ns.map V.int)) {E : XK} : spF K 1 F [.ref a] H (fun v _ => v = .bl true) E := by
  obtain ⟨h', e⟩ := hF ns
  refine ⟨rfl, [a], _, [.loc 0], _, _, frz_rel ho hS, .cons (.loc rfl) .nil, e, fun μ' H' v _ _ r => ?_⟩
  cases r
  rfl
end
end MP

/-! text Mini15 -/
set_option Elab.async false
set_option linter.all false
set_option maxRecDepth 100000
set_option maxHeartbeats 4000000
/-! What a reading gives, by what is asked of it: weakest preconditions over the shallow terms. -/
namespace MP
open PySem PySem.Spec PyProof.Rows
open L2 hiding St

abbrev QE := D → Hs → Prop
def wO (o : Option (D × Hs)) (Q : QE) : Prop := ∃ d h, o = some (d, h) ∧ Q d h
def wE (m : EM) (ρ : Rho) (h : Hs) (Q : QE) : Prop := wO (m ρ h) Q
def wB (m : BM) (ρ : Rho) (h : Hs) (Q : Bool → Hs → Prop) : Prop := ∃ b h', m ρ h = some (b, h') ∧ Q b h'
def wA (m : AM) (ρ : Rho) (h : Hs) (Q : List D → Hs → Prop) : Prop := ∃ ds h', m ρ h = some (ds, h') ∧ Q ds h'
def wP (m : PM) (ρ : Rho) (h : Hs) (Q : Option Int → Hs → Prop) : Prop := ∃ o h', m ρ h = some (o, h') ∧ Q o h'
def wI (m : IM) (ρ : Rho) (h : Hs) (Q : List D → Gd → Hs → Prop) : Prop := ∃ xs gd h', m ρ h = some ((xs, gd), h') ∧ Q xs gd h'
def wG (m : GM) (x : D) (ρ : Rho) (h : Hs) (Q : Rho → Hs → Prop) : Prop := ∃ ρ' h', m x ρ h = some (ρ', h') ∧ Q ρ' h'
def wGs (m : GsM) (xs : List D) (ρ : Rho) (h : Hs) (Q : Rho → Hs → Prop) : Prop := ∃ ρ' h', m xs ρ h = some (ρ', h') ∧ Q ρ' h'
abbrev QS := Fl → Rho → Hs → Prop
def wS (m : SM) (ρ : Rho) (h : Hs) (Q : QS) : Prop := ∃ f ρ' h', m ρ h = some (f, ρ', h') ∧ Q f ρ' h'
def wF (F : ON) (ds : List D) (h : Hs) (Q : QE) : Prop := wO (F ds h) Q

/-! ### monotone -/
theorem wO.imp {o : Option (D × Hs)} {Q Q' : QE} (w : wO o Q) (i : ∀ d h, Q d h → Q' d h) : wO o Q' := let ⟨d, h, e, q⟩ := w; ⟨d, h, e, i d h q⟩
theorem wF.imp {F : ON} {ds : List D} {h : Hs} {Q Q' : QE} (w : wF F ds h Q) (i : ∀ d h, Q d h → Q' d h) : wF F ds h Q' := wO.imp w i
theorem wE.imp {m : EM} {ρ : Rho} {h : Hs} {Q Q' : QE} (w : wE m ρ h Q) (i : ∀ d h, Q d h → Q' d h) : wE m ρ h Q' := wO.imp w i
theorem wB.imp {m : BM} {ρ : Rho} {h : Hs} {Q Q' : Bool → Hs → Prop} (w : wB m ρ h Q) (i : ∀ d h, Q d h → Q' d h) : wB m ρ h Q' := let ⟨d, h, e, q⟩ := w; ⟨d, h, e, i d h q⟩
theorem wG.imp {m : GM} {x : D} {ρ : Rho} {h : Hs} {Q Q' : Rho → Hs → Prop} (w : wG m x ρ h Q) (i : ∀ d h, Q d h → Q' d h) : wG m x ρ h Q' := let ⟨d, h, e, q⟩ := w; ⟨d, h, e, i d h q⟩
theorem wS.imp {m : SM} {ρ : Rho} {h : Hs} {Q Q' : QS} (w : wS m ρ h Q) (i : ∀ f ρ h, Q f ρ h → Q' f ρ h) : wS m ρ h Q' := let ⟨f, ρ', h', e, q⟩ := w; ⟨f, ρ', h', e, i f ρ' h' q⟩

@[simp ↓] theorem wO_some (d : D) (h : Hs) (Q : QE) : wO (some (d, h)) Q = Q d h := propext ⟨fun ⟨_, _, e, q⟩ => (by cases e; exact q), fun q => ⟨d, h, rfl, q⟩⟩
@[simp ↓] theorem wO_none (Q : QE) : wO none Q = False := propext ⟨fun w => (by obtain ⟨_, _, e, _⟩ := w; cases e), fun q => False.elim q⟩
@[simp ↓] theorem wO_map {α : Type} (o : Option α) (f : α → D × Hs) (Q : QE) : wO (o.map f) Q = ∃ a, o = some a ∧ Q (f a).1 (f a).2 := propext ⟨fun ⟨d, h, e, q⟩ => (by
  cases o with
  | none => cases e
  | some a => refine ⟨a, rfl, ?_⟩; simp only [Option.map_some, Option.some.injEq] at e; rw [e]; exact q), fun ⟨a, e, q⟩ => by subst e; exact ⟨_, _, rfl, q⟩⟩

/-! ### expressions -/
@[simp ↓] theorem wE_C (d : D) (ρ : Rho) (h : Hs) (Q : QE) : wE (mC d) ρ h Q = Q d h := wO_some d h Q
def slotP (o : Option (Option D)) (Q : D → Prop) : Prop := ∃ d, o = some (some d) ∧ Q d
@[simp ↓] theorem slotP_some (d : D) (Q : D → Prop) : slotP (some (some d)) Q = Q d := propext ⟨fun ⟨_, e, q⟩ => (by cases e; exact q), fun q => ⟨d, rfl, q⟩⟩
@[simp ↓] theorem wE_Var (i : Nat) (ρ : Rho) (h : Hs) (Q : QE) : wE (mVar i) ρ h Q = slotP ρ[i]? (fun d => Q d h) := propext ⟨fun ⟨d, h', e, q⟩ => (by
  unfold mVar at e
  split at e
  · rename_i d0 e0; cases e; exact ⟨d, e0, q⟩
  · cases e), fun ⟨d, e, q⟩ => ⟨d, h, by unfold mVar; rw [e], q⟩⟩
@[simp ↓] theorem wE_Op2 (g : O2) (a b : EM) (ρ : Rho) (h : Hs) (Q : QE) : wE (mOp2 g a b) ρ h Q = wE a ρ h (fun x h1 => wE b ρ h1 (fun y h2 => wO (g x y h2) Q)) := propext ⟨fun ⟨d, h', e, q⟩ => (by
  obtain ⟨⟨x, h1⟩, e1, e⟩ := bind_some e
  obtain ⟨⟨y, h2⟩, e2, e⟩ := bind_some e
  exact ⟨x, h1, e1, y, h2, e2, d, h', e, q⟩), fun ⟨x, h1, e1, y, h2, e2, d, h', e, q⟩ => ⟨d, h', by unfold mOp2; rw [e1]; show ((b ρ h1).bind _) = _; rw [e2]; exact e, q⟩⟩
@[simp ↓] theorem wE_Op1 (g : O1) (a : EM) (ρ : Rho) (h : Hs) (Q : QE) : wE (mOp1 g a) ρ h Q = wE a ρ h (fun x h1 => wO (g x h1) Q) := propext ⟨fun ⟨d, h', e, q⟩ => (by
  obtain ⟨⟨x, h1⟩, e1, e⟩ := bind_some e
  exact ⟨x, h1, e1, d, h', e, q⟩), fun ⟨x, h1, e1, d, h', e, q⟩ => ⟨d, h', by unfold mOp1; rw [e1]; exact e, q⟩⟩
@[simp ↓] theorem wA_Nil (ρ : Rho) (h : Hs) (Q : List D → Hs → Prop) : wA aNil ρ h Q = Q [] h := propext ⟨fun ⟨_, _, e, q⟩ => (by cases e; exact q), fun q => ⟨[], h, rfl, q⟩⟩
@[simp ↓] theorem wA_Cons (me : EM) (ma : AM) (ρ : Rho) (h : Hs) (Q : List D → Hs → Prop) : wA (aCons me ma) ρ h Q = wE me ρ h (fun x h1 => wA ma ρ h1 (fun xs h2 => Q (x :: xs) h2)) := propext ⟨fun ⟨d, h', e, q⟩ => (by
  obtain ⟨⟨x, h1⟩, e1, e⟩ := bind_some e
  obtain ⟨⟨y, h2⟩, e2, e⟩ := bind_some e
  cases e
  exact ⟨x, h1, e1, y, _, e2, q⟩), fun ⟨x, h1, e1, y, h2, e2, q⟩ => ⟨_, _, by unfold aCons; rw [e1]; show ((ma ρ h1).bind _) = _; rw [e2]; rfl, q⟩⟩
@[simp ↓] theorem wE_CallN (g : ON) (ma : AM) (ρ : Rho) (h : Hs) (Q : QE) : wE (mCallN g ma) ρ h Q = wA ma ρ h (fun ds h1 => wO (g ds h1) Q) := propext ⟨fun ⟨d, h', e, q⟩ => (by
  obtain ⟨⟨x, h1⟩, e1, e⟩ := bind_some e
  exact ⟨x, h1, e1, d, h', e, q⟩), fun ⟨x, h1, e1, d, h', e, q⟩ => ⟨d, h', by unfold mCallN; rw [e1]; exact e, q⟩⟩
@[simp ↓] theorem wE_CallF (n : Nat) (g : ON) (ma : AM) (ρ : Rho) (h : Hs) (Q : QE) : wE (mCallF n g ma) ρ h Q = wA ma ρ h (fun ds h1 => ds.length = n ∧ wF g ds h1 Q) := propext ⟨fun ⟨d, h', e, q⟩ => (by
  obtain ⟨⟨x, h1⟩, e1, e⟩ := bind_some e
  by_cases hn : x.length = n
  · rw [if_pos hn] at e; exact ⟨x, h1, e1, hn, d, h', e, q⟩
  · rw [if_neg hn] at e; cases e), fun ⟨x, h1, e1, hn, d, h', e, q⟩ => ⟨d, h', by unfold mCallF; rw [e1]; show (if _ then _ else _) = _; rw [if_pos hn]; exact e, q⟩⟩
@[simp ↓] theorem wE_Meth (ty : Hs → D → Bool) (g : OM) (mo : EM) (ma : AM) (ρ : Rho) (h : Hs) (Q : QE) : wE (mMeth ty g mo ma) ρ h Q = wE mo ρ h (fun o h1 => ty h1 o = true ∧ wA ma ρ h1 (fun ds h2 => wO (g o ds h2) Q)) := propext ⟨fun ⟨d, h', e, q⟩ => (by
  obtain ⟨⟨x, h1⟩, e1, e⟩ := bind_some e
  by_cases hn : ty h1 x = true
  · rw [if_pos hn] at e
    obtain ⟨⟨y, h2⟩, e2, e⟩ := bind_some e
    exact ⟨x, h1, e1, hn, y, h2, e2, d, h', e, q⟩
  · rw [if_neg hn] at e; cases e), fun ⟨x, h1, e1, hn, y, h2, e2, d, h', e, q⟩ => ⟨d, h', by unfold mMeth; rw [e1]; show (if _ then _ else _) = _; rw [if_pos hn]; show ((ma ρ h1).bind _) = _; rw [e2]; exact e, q⟩⟩
@[simp ↓] theorem wE_Tup (ma : AM) (ρ : Rho) (h : Hs) (Q : QE) : wE (mTup ma) ρ h Q = wA ma ρ h (fun ds h1 => ds.length ≤ sizeLine ∧ Q (.tup ds) h1) := propext ⟨fun ⟨d, h', e, q⟩ => (by
  obtain ⟨⟨x, h1⟩, e1, e⟩ := bind_some e
  by_cases hn : x.length ≤ sizeLine
  · rw [if_pos hn] at e; cases e; exact ⟨x, h1, e1, hn, q⟩
  · rw [if_neg hn] at e; cases e), fun ⟨x, h1, e1, hn, q⟩ => ⟨_, _, by unfold mTup; rw [e1]; show (if _ then _ else _) = _; rw [if_pos hn], q⟩⟩
@[simp ↓] theorem wE_Lst (ma : AM) (ρ : Rho) (h : Hs) (Q : QE) : wE (mLst ma) ρ h Q = wA ma ρ h (fun ds h1 => ds.length ≤ sizeLine ∧ Q (.loc h1.length) (h1 ++ [.lst ds])) := propext ⟨fun ⟨d, h', e, q⟩ => (by
  obtain ⟨⟨x, h1⟩, e1, e⟩ := bind_some e
  by_cases hn : x.length ≤ sizeLine
  · rw [if_pos hn] at e; cases e; exact ⟨x, h1, e1, hn, q⟩
  · rw [if_neg hn] at e; cases e), fun ⟨x, h1, e1, hn, q⟩ => ⟨_, _, by unfold mLst; rw [e1]; show (if _ then _ else _) = _; rw [if_pos hn], q⟩⟩
@[simp ↓] theorem wE_If (mt : BM) (ma mb : EM) (ρ : Rho) (h : Hs) (Q : QE) : wE (mIf mt ma mb) ρ h Q = wB mt ρ h (fun b h1 => if b = true then wE ma ρ h1 Q else wE mb ρ h1 Q) := propext ⟨fun ⟨d, h', e, q⟩ => (by
  obtain ⟨⟨x, h1⟩, e1, e⟩ := bind_some e
  refine ⟨x, h1, e1, ?_⟩
  cases x
  · exact ⟨d, h', e, q⟩
  · exact ⟨d, h', e, q⟩), fun ⟨x, h1, e1, w⟩ => by
  cases x
  · obtain ⟨d, h', e, q⟩ := w; exact ⟨d, h', by unfold mIf; rw [e1]; exact e, q⟩
  · obtain ⟨d, h', e, q⟩ := w; exact ⟨d, h', by unfold mIf; rw [e1]; exact e, q⟩⟩
def wT (o : Option Bool) (Q : Bool → Prop) : Prop := ∃ b, o = some b ∧ Q b
@[simp ↓] theorem wT_some (b : Bool) (Q : Bool → Prop) : wT (some b) Q = Q b := propext ⟨fun ⟨_, e, q⟩ => (by cases e; exact q), fun q => ⟨b, rfl, q⟩⟩
@[simp ↓] theorem wE_AndV (ma mb : EM) (ρ : Rho) (h : Hs) (Q : QE) : wE (mAndV ma mb) ρ h Q = wE ma ρ h (fun x h1 => wT (truD h1 x) (fun b => if b = true then wE mb ρ h1 Q else Q x h1)) := propext ⟨fun ⟨d, h', e, q⟩ => (by
  obtain ⟨⟨x, h1⟩, e1, e⟩ := bind_some e
  refine ⟨x, h1, e1, ?_⟩
  dsimp only at e
  cases z : truD h1 x with
  | none => rw [z] at e; cases e
  | some b => rw [z] at e; cases b
              · cases e; exact ⟨false, z, q⟩
              · exact ⟨true, z, d, h', e, q⟩), fun ⟨x, h1, e1, b, z, w⟩ => by
  cases b
  · exact ⟨x, h1, by unfold mAndV; rw [e1]; dsimp only [Option.bind_some]; rw [z], w⟩
  · obtain ⟨d, h', e, q⟩ := w
    exact ⟨d, h', by unfold mAndV; rw [e1]; dsimp only [Option.bind_some]; rw [z]; exact e, q⟩⟩
@[simp ↓] theorem wE_OrV (ma mb : EM) (ρ : Rho) (h : Hs) (Q : QE) : wE (mOrV ma mb) ρ h Q = wE ma ρ h (fun x h1 => wT (truD h1 x) (fun b => if b = true then Q x h1 else wE mb ρ h1 Q)) := propext ⟨fun ⟨d, h', e, q⟩ => (by
  obtain ⟨⟨x, h1⟩, e1, e⟩ := bind_some e
  refine ⟨x, h1, e1, ?_⟩
  dsimp only at e
  cases z : truD h1 x with
  | none => rw [z] at e; cases e
  | some b => rw [z] at e; cases b
              · exact ⟨false, z, d, h', e, q⟩
              · cases e; exact ⟨true, z, q⟩), fun ⟨x, h1, e1, b, z, w⟩ => by
  cases b
  · obtain ⟨d, h', e, q⟩ := w
    exact ⟨d, h', by unfold mOrV; rw [e1]; dsimp only [Option.bind_some]; rw [z]; exact e, q⟩
  · exact ⟨x, h1, by unfold mOrV; rw [e1]; dsimp only [Option.bind_some]; rw [z], w⟩⟩
@[simp ↓] theorem wE_NotV (ma : EM) (ρ : Rho) (h : Hs) (Q : QE) : wE (mNotV ma) ρ h Q = wE ma ρ h (fun x h1 => wT (truD h1 x) (fun b => Q (.bl (!b)) h1)) := propext ⟨fun ⟨d, h', e, q⟩ => (by
  obtain ⟨⟨x, h1⟩, e1, e⟩ := bind_some e
  refine ⟨x, h1, e1, ?_⟩
  dsimp only at e
  cases z : truD h1 x with
  | none => rw [z] at e; cases e
  | some b => rw [z] at e; cases e; exact ⟨_, z, q⟩), fun ⟨x, h1, e1, b, z, w⟩ => by
  exact ⟨_, _, by unfold mNotV; rw [e1]; dsimp only [Option.bind_some]; rw [z], w⟩⟩
/-- a result that is a bool -/
def wOb (o : Option (D × Hs)) (Q : Bool → Hs → Prop) : Prop := wO o (fun d h => ∃ b, d = .bl b ∧ Q b h)
@[simp ↓] theorem wOb_some (b : Bool) (h : Hs) (Q : Bool → Hs → Prop) : wOb (some (.bl b, h)) Q = Q b h := by
  unfold wOb; rw [wO_some]; exact propext ⟨fun ⟨_, e, q⟩ => (by cases e; exact q), fun q => ⟨b, rfl, q⟩⟩
def blP (d : D) (Q : Bool → Prop) : Prop := ∃ b, d = .bl b ∧ Q b
@[simp ↓] theorem blP_bl (b : Bool) (Q : Bool → Prop) : blP (.bl b) Q = Q b := propext ⟨fun ⟨_, e, q⟩ => (by cases e; exact q), fun q => ⟨b, rfl, q⟩⟩
@[simp ↓] theorem wE_Chain (g g' : O2) (ma mb mc : EM) (ρ : Rho) (h : Hs) (Q : QE) : wE (mChain g g' ma mb mc) ρ h Q = wE ma ρ h (fun x h1 => wE mb ρ h1 (fun y h2 => wO (g x y h2) (fun d h3 => blP d (fun b => if b = true then wE mc ρ h3 (fun z h4 => wO (g' y z h4) Q) else Q (.bl false) h3)))) := propext ⟨fun ⟨d, h', e, q⟩ => (by
  obtain ⟨⟨x, h1⟩, e1, e⟩ := bind_some e
  obtain ⟨⟨y, h2⟩, e2, e⟩ := bind_some e
  obtain ⟨⟨z, h3⟩, e3, e⟩ := bind_some e
  refine ⟨x, h1, e1, y, h2, e2, z, h3, e3, ?_⟩
  cases z with
  | bl b => cases b
            · dsimp only at e; cases e; exact ⟨_, rfl, q⟩
            · dsimp only at e
              obtain ⟨⟨u, h4⟩, e4, e⟩ := bind_some e
              exact ⟨_, rfl, u, h4, e4, d, h', e, q⟩
  | _ => cases e), fun ⟨x, h1, e1, y, h2, e2, z, h3, e3, b, ez, w⟩ => by
  subst ez
  cases b
  · exact ⟨_, _, by unfold mChain; rw [e1]; show ((mb ρ h1).bind _) = _; rw [e2]; show ((g x y h2).bind _) = _; rw [e3]; rfl, w⟩
  · obtain ⟨u, h4, e4, d, h', e, q⟩ := w
    exact ⟨d, h', by unfold mChain; rw [e1]; show ((mb ρ h1).bind _) = _; rw [e2]; show ((g x y h2).bind _) = _; rw [e3]; show ((mc ρ h3).bind _) = _; rw [e4]; exact e, q⟩⟩
def inP (d : D) (Q : Int → Prop) : Prop := ∃ b, d = .int b ∧ Q b
@[simp ↓] theorem inP_int (b : Int) (Q : Int → Prop) : inP (.int b) Q = Q b := propext ⟨fun ⟨_, e, q⟩ => (by cases e; exact q), fun q => ⟨b, rfl, q⟩⟩
@[simp ↓] theorem wP_No (ρ : Rho) (h : Hs) (Q : Option Int → Hs → Prop) : wP pNo ρ h Q = Q none h := propext ⟨fun ⟨_, _, e, q⟩ => (by cases e; exact q), fun q => ⟨_, h, rfl, q⟩⟩
@[simp ↓] theorem wP_Int (me : EM) (ρ : Rho) (h : Hs) (Q : Option Int → Hs → Prop) : wP (pInt me) ρ h Q = wE me ρ h (fun d h1 => inP d (fun i => Q (some i) h1)) := propext ⟨fun ⟨d, h', e, q⟩ => (by
  obtain ⟨⟨x, h1⟩, e1, e⟩ := bind_some e
  cases x with
  | int i => cases e; exact ⟨_, _, e1, _, rfl, q⟩
  | _ => cases e), fun ⟨x, h1, e1, i, ei, q⟩ => by
  subst ei
  exact ⟨_, _, by unfold pInt; rw [e1]; rfl, q⟩⟩
@[simp ↓] theorem wE_Sl (ma : EM) (ml mu : PM) (ρ : Rho) (h : Hs) (Q : QE) : wE (mSl ma ml mu) ρ h Q = wE ma ρ h (fun x h1 => wP ml ρ h1 (fun lo h2 => wP mu ρ h2 (fun hi h3 => wO (slO x lo hi h3) Q))) := propext ⟨fun ⟨d, h', e, q⟩ => (by
  obtain ⟨⟨x, h1⟩, e1, e⟩ := bind_some e
  obtain ⟨⟨y, h2⟩, e2, e⟩ := bind_some e
  obtain ⟨⟨z, h3⟩, e3, e⟩ := bind_some e
  exact ⟨x, h1, e1, y, h2, e2, z, h3, e3, d, h', e, q⟩), fun ⟨x, h1, e1, y, h2, e2, z, h3, e3, d, h', e, q⟩ => ⟨d, h', by unfold mSl; rw [e1]; show ((ml ρ h1).bind _) = _; rw [e2]; show ((mu ρ h2).bind _) = _; rw [e3]; exact e, q⟩⟩
/-! ### tests -/
@[simp ↓] theorem wB_Tru (ma : EM) (ρ : Rho) (h : Hs) (Q : Bool → Hs → Prop) : wB (bTru ma) ρ h Q = wE ma ρ h (fun x h1 => wT (truD h1 x) (fun b => Q b h1)) := propext ⟨fun ⟨d, h', e, q⟩ => (by
  obtain ⟨⟨x, h1⟩, e1, e⟩ := bind_some e
  cases z : truD h1 x with
  | none => dsimp only at e; rw [z] at e; cases e
  | some b => dsimp only at e; rw [z] at e; cases e; exact ⟨x, _, e1, _, z, q⟩), fun ⟨x, h1, e1, b, z, q⟩ => ⟨_, _, by unfold bTru; rw [e1]; show (Option.map _ (truD h1 x)) = _; rw [z]; rfl, q⟩⟩
@[simp ↓] theorem wB_Bool (ma : EM) (ρ : Rho) (h : Hs) (Q : Bool → Hs → Prop) : wB (bBool ma) ρ h Q = wE ma ρ h (fun x h1 => blP x (fun b => Q b h1)) := propext ⟨fun ⟨d, h', e, q⟩ => (by
  obtain ⟨⟨x, h1⟩, e1, e⟩ := bind_some e
  cases x with
  | bl b => cases e; exact ⟨_, _, e1, _, rfl, q⟩
  | _ => cases e), fun ⟨x, h1, e1, i, ei, q⟩ => by
  subst ei
  exact ⟨_, _, by unfold bBool; rw [e1]; rfl, q⟩⟩
@[simp ↓] theorem wB_Not (ma : BM) (ρ : Rho) (h : Hs) (Q : Bool → Hs → Prop) : wB (bNot ma) ρ h Q = wB ma ρ h (fun b h1 => Q (!b) h1) := propext ⟨fun ⟨d, h', e, q⟩ => (by
  unfold bNot at e
  cases z : ma ρ h with
  | none => rw [z] at e; cases e
  | some r => rw [z] at e; cases e; exact ⟨_, _, z, q⟩), fun ⟨b, h1, e1, q⟩ => ⟨_, _, by unfold bNot; rw [e1]; rfl, q⟩⟩
@[simp ↓] theorem wB_And (ma mb : BM) (ρ : Rho) (h : Hs) (Q : Bool → Hs → Prop) : wB (bAnd ma mb) ρ h Q = wB ma ρ h (fun b h1 => if b = true then wB mb ρ h1 Q else Q false h1) := propext ⟨fun ⟨d, h', e, q⟩ => (by
  obtain ⟨⟨x, h1⟩, e1, e⟩ := bind_some e
  cases x
  · cases e; exact ⟨_, _, e1, q⟩
  · exact ⟨_, _, e1, d, h', e, q⟩), fun ⟨x, h1, e1, w⟩ => by
  cases x
  · exact ⟨_, _, by unfold bAnd; rw [e1]; rfl, w⟩
  · obtain ⟨d, h', e, q⟩ := w; exact ⟨d, h', by unfold bAnd; rw [e1]; exact e, q⟩⟩
@[simp ↓] theorem wB_Or (ma mb : BM) (ρ : Rho) (h : Hs) (Q : Bool → Hs → Prop) : wB (bOr ma mb) ρ h Q = wB ma ρ h (fun b h1 => if b = true then Q true h1 else wB mb ρ h1 Q) := propext ⟨fun ⟨d, h', e, q⟩ => (by
  obtain ⟨⟨x, h1⟩, e1, e⟩ := bind_some e
  cases x
  · exact ⟨_, _, e1, d, h', e, q⟩
  · cases e; exact ⟨_, _, e1, q⟩), fun ⟨x, h1, e1, w⟩ => by
  cases x
  · obtain ⟨d, h', e, q⟩ := w; exact ⟨d, h', by unfold bOr; rw [e1]; exact e, q⟩
  · exact ⟨_, _, by unfold bOr; rw [e1]; rfl, w⟩⟩
@[simp ↓] theorem wB_Yes (ρ : Rho) (h : Hs) (Q : Bool → Hs → Prop) : wB bYes ρ h Q = Q true h := propext ⟨fun ⟨_, _, e, q⟩ => (by cases e; exact q), fun q => ⟨_, h, rfl, q⟩⟩
/-! ### targets -/
@[simp ↓] theorem wG_Var (i : Nat) (x : D) (ρ : Rho) (h : Hs) (Q : Rho → Hs → Prop) : wG (gVar i) x ρ h Q = Q (ρ.set i (some x)) h := propext ⟨fun ⟨_, _, e, q⟩ => (by cases e; exact q), fun q => ⟨_, h, rfl, q⟩⟩
@[simp ↓] theorem wGs_Nil (ρ : Rho) (h : Hs) (Q : Rho → Hs → Prop) : wGs gsNil [] ρ h Q = Q ρ h := propext ⟨fun ⟨_, _, e, q⟩ => (by cases e; exact q), fun q => ⟨_, h, rfl, q⟩⟩
@[simp ↓] theorem wGs_Cons (g : GM) (gs : GsM) (x : D) (xs : List D) (ρ : Rho) (h : Hs) (Q : Rho → Hs → Prop) : wGs (gsCons g gs) (x :: xs) ρ h Q = wG g x ρ h (fun ρ1 h1 => wGs gs xs ρ1 h1 Q) := propext ⟨fun ⟨d, h', e, q⟩ => (by
  obtain ⟨⟨y, h1⟩, e1, e⟩ := bind_some e
  exact ⟨y, h1, e1, d, h', e, q⟩), fun ⟨x', h1, e1, d, h', e, q⟩ => ⟨d, h', by show ((g x ρ h).bind _) = _; rw [e1]; exact e, q⟩⟩
def sqP (o : Option (List D)) (Q : List D → Prop) : Prop := ∃ xs, o = some xs ∧ Q xs
@[simp ↓] theorem sqP_some (xs : List D) (Q : List D → Prop) : sqP (some xs) Q = Q xs := propext ⟨fun ⟨_, e, q⟩ => (by cases e; exact q), fun q => ⟨xs, rfl, q⟩⟩
@[simp ↓] theorem wG_Tup (n : Nat) (gs : GsM) (x : D) (ρ : Rho) (h : Hs) (Q : Rho → Hs → Prop) : wG (gTupM n gs) x ρ h Q = sqP (seqAt h x) (fun xs => xs.length = n ∧ wGs gs xs ρ h Q) := propext ⟨fun ⟨d, h', e, q⟩ => (by
  unfold gTupM at e
  split at e
  · rename_i xs e1
    split at e
    · rename_i hn
      exact ⟨xs, e1, hn, d, h', e, q⟩
    · cases e
  · cases e), fun ⟨xs, e1, hn, d, h', e, q⟩ => ⟨d, h', by unfold gTupM; rw [e1]; show (if _ then _ else _) = _; rw [if_pos hn]; exact e, q⟩⟩
def stP (o : Option Hs) (Q : Hs → Prop) : Prop := ∃ h, o = some h ∧ Q h
@[simp ↓] theorem stP_some (h : Hs) (Q : Hs → Prop) : stP (some h) Q = Q h := propext ⟨fun ⟨_, e, q⟩ => (by cases e; exact q), fun q => ⟨h, rfl, q⟩⟩
@[simp ↓] theorem wG_Sub (mo mi : EM) (x : D) (ρ : Rho) (h : Hs) (Q : Rho → Hs → Prop) : wG (gSubM mo mi) x ρ h Q = wE mo ρ h (fun o h1 => wE mi ρ h1 (fun i h2 => stP (setD o i x h2) (fun h3 => Q ρ h3))) := propext ⟨fun ⟨d, h', e, q⟩ => (by
  unfold gSubM at e
  obtain ⟨⟨o, h1⟩, e1, e⟩ := bind_some e
  obtain ⟨⟨y, h2⟩, e2, e⟩ := bind_some e
  cases z : setD o y x h2 with
  | none => dsimp only at e; rw [z] at e; cases e
  | some h3 => dsimp only at e; rw [z] at e; cases e; exact ⟨_, _, e1, _, _, e2, _, z, q⟩), fun ⟨o, h1, e1, y, h2, e2, h3, z, q⟩ => ⟨_, _, by unfold gSubM; rw [e1]; show ((mi ρ h1).bind _) = _; rw [e2]; show (Option.map _ (setD o y x h2)) = _; rw [z]; rfl, q⟩⟩
/-! ### what is walked -/
def sqI (h : Hs) (d : D) (Q : List D → Gd → Prop) : Prop := match d with
  | .tup xs => Q xs none
  | .loc n => ∃ xs, itemsAt h n = some xs ∧ Q xs (some (n, xs))
  | .str x => Q (x.cps.toList.map fun c => .str ⟨#[c]⟩) none
  | _ => False
@[simp ↓] theorem wI_Seq (me : EM) (ρ : Rho) (h : Hs) (Q : List D → Gd → Hs → Prop) : wI (iSeq me) ρ h Q = wE me ρ h (fun d h1 => sqI h1 d (fun xs gd => Q xs gd h1)) := propext ⟨fun ⟨d, gd, h', e, q⟩ => (by
  unfold iSeq at e
  obtain ⟨⟨o, h1⟩, e1, e⟩ := bind_some e
  refine ⟨o, h1, e1, ?_⟩
  cases o with
  | tup xs => cases e; exact q
  | str xs => cases e; exact q
  | loc n => dsimp only at e
             cases z : itemsAt h1 n with
             | none => rw [z] at e; cases e
             | some xs => rw [z] at e; cases e; exact ⟨_, z, q⟩
  | _ => cases e), fun ⟨o, h1, e1, w⟩ => by
  cases o with
  | tup xs => exact ⟨_, _, _, by show ((me ρ h).bind _) = _; rw [e1]; rfl, w⟩
  | str xs => exact ⟨_, _, _, by show ((me ρ h).bind _) = _; rw [e1]; rfl, w⟩
  | loc n => obtain ⟨xs, z, w⟩ := w
             exact ⟨_, _, _, by show ((me ρ h).bind _) = _; rw [e1]; show (Option.map _ (itemsAt h1 n)) = _; rw [z]; rfl, w⟩
  | _ => exact w.elim⟩
@[simp ↓] theorem wI_Range1 (me : EM) (ρ : Rho) (h : Hs) (Q : List D → Gd → Hs → Prop) : wI (iRange1 me) ρ h Q = wE me ρ h (fun d h1 => inP d (fun j => (-(2 ^ 62) ≤ j ∧ j < 2 ^ 62) ∧ Q (rangeD 0 1 j.toNat) none h1)) := propext ⟨fun ⟨d, gd, h', e, q⟩ => (by
  unfold iRange1 at e
  obtain ⟨⟨o, h1⟩, e1, e⟩ := bind_some e
  cases o with
  | int j => dsimp only at e
             split at e
             · rename_i hz; cases e; exact ⟨_, _, e1, _, rfl, hz, q⟩
             · cases e
  | _ => cases e), fun ⟨o, h1, e1, j, ej, hz, q⟩ => by
  subst ej
  exact ⟨_, _, _, by unfold iRange1; rw [e1]; show (if _ then _ else _) = _; rw [if_pos hz], q⟩⟩
@[simp ↓] theorem wI_Range2 (ma mb : EM) (ρ : Rho) (h : Hs) (Q : List D → Gd → Hs → Prop) : wI (iRange2 ma mb) ρ h Q = wE ma ρ h (fun d h1 => wE mb ρ h1 (fun d2 h2 => inP d (fun i => inP d2 (fun j => (-(2 ^ 62) ≤ i ∧ i < 2 ^ 62 ∧ -(2 ^ 62) ≤ j ∧ j < 2 ^ 62) ∧ Q (rangeD i 1 (j - i).toNat) none h2)))) := propext ⟨fun ⟨d, gd, h', e, q⟩ => (by
  unfold iRange2 at e
  obtain ⟨⟨o, h1⟩, e1, e⟩ := bind_some e
  obtain ⟨⟨o2, h2⟩, e2, e⟩ := bind_some e
  refine ⟨_, _, e1, _, _, e2, ?_⟩
  dsimp only at e
  split at e
  · split at e
    · rename_i hz; cases e; exact ⟨_, rfl, _, rfl, hz, q⟩
    · cases e
  · cases e), fun ⟨o, h1, e1, o2, h2, e2, i, ei, j, ej, hz, q⟩ => by
  subst ei; subst ej
  exact ⟨_, _, _, by unfold iRange2; rw [e1]; show ((mb ρ h1).bind _) = _; rw [e2]; show (if _ then _ else _) = _; rw [if_pos hz], q⟩⟩
@[simp ↓] theorem wI_Range3 (ma mb mc : EM) (ρ : Rho) (h : Hs) (Q : List D → Gd → Hs → Prop) : wI (iRange3 ma mb mc) ρ h Q = wE ma ρ h (fun d h1 => wE mb ρ h1 (fun d2 h2 => wE mc ρ h2 (fun d3 h3 => inP d (fun i => inP d2 (fun j => inP d3 (fun c => (c = -1 ∧ -(2 ^ 62) ≤ i ∧ i < 2 ^ 62 ∧ -(2 ^ 62) ≤ j ∧ j < 2 ^ 62) ∧ Q (rangeD i (-1) (i - j).toNat) none h3)))))) := propext ⟨fun ⟨d, gd, h', e, q⟩ => (by
  unfold iRange3 at e
  obtain ⟨⟨o, h1⟩, e1, e⟩ := bind_some e
  obtain ⟨⟨o2, h2⟩, e2, e⟩ := bind_some e
  obtain ⟨⟨o3, h3⟩, e3, e⟩ := bind_some e
  refine ⟨_, _, e1, _, _, e2, _, _, e3, ?_⟩
  dsimp only at e
  split at e
  · split at e
    · rename_i hz; cases e; exact ⟨_, rfl, _, rfl, _, rfl, hz, q⟩
    · cases e
  · cases e), fun ⟨o, h1, e1, o2, h2, e2, o3, h3, e3, i, ei, j, ej, c, ec, hz, q⟩ => by
  subst ei; subst ej; subst ec
  exact ⟨_, _, _, by unfold iRange3; rw [e1]; show ((mb ρ h1).bind _) = _; rw [e2]; show ((mc ρ h2).bind _) = _; rw [e3]; show (if _ then _ else _) = _; rw [if_pos hz], q⟩⟩
def sqE (h : Hs) (d : D) (Q : List D → Gd → Prop) : Prop := match d with
  | .tup xs => Q (enumD xs) none
  | .loc n => ∃ xs, itemsAt h n = some xs ∧ Q (enumD xs) (some (n, xs))
  | _ => False
@[simp ↓] theorem wI_Enum (me : EM) (ρ : Rho) (h : Hs) (Q : List D → Gd → Hs → Prop) : wI (iEnum me) ρ h Q = wE me ρ h (fun d h1 => sqE h1 d (fun xs gd => Q xs gd h1)) := propext ⟨fun ⟨d, gd, h', e, q⟩ => (by
  unfold iEnum at e
  obtain ⟨⟨o, h1⟩, e1, e⟩ := bind_some e
  refine ⟨o, h1, e1, ?_⟩
  cases o with
  | tup xs => cases e; exact q
  | loc n => dsimp only at e
             cases z : itemsAt h1 n with
             | none => rw [z] at e; cases e
             | some xs => rw [z] at e; cases e; exact ⟨_, z, q⟩
  | _ => cases e), fun ⟨o, h1, e1, w⟩ => by
  cases o with
  | tup xs => exact ⟨_, _, _, by show ((me ρ h).bind _) = _; rw [e1]; rfl, w⟩
  | loc n => obtain ⟨xs, z, w⟩ := w
             exact ⟨_, _, _, by show ((me ρ h).bind _) = _; rw [e1]; show (Option.map _ (itemsAt h1 n)) = _; rw [z]; rfl, w⟩
  | _ => exact w.elim⟩
/-! ### statements -/
def seqK (b : SM) (Q : QS) : QS := fun f ρ h => match f with
  | .nx => wS b ρ h Q
  | f => Q f ρ h
@[simp ↓] theorem seqK_nx (b : SM) (Q : QS) (ρ : Rho) (h : Hs) : seqK b Q .nx ρ h = wS b ρ h Q := rfl
@[simp ↓] theorem seqK_bk (b : SM) (Q : QS) (ρ : Rho) (h : Hs) : seqK b Q .bk ρ h = Q .bk ρ h := rfl
@[simp ↓] theorem seqK_ct (b : SM) (Q : QS) (ρ : Rho) (h : Hs) : seqK b Q .ct ρ h = Q .ct ρ h := rfl
@[simp ↓] theorem seqK_rt (b : SM) (Q : QS) (d : D) (ρ : Rho) (h : Hs) : seqK b Q (.rt d) ρ h = Q (.rt d) ρ h := rfl
@[simp ↓] theorem wS_Next (ρ : Rho) (h : Hs) (Q : QS) : wS sNext ρ h Q = Q .nx ρ h := propext ⟨fun ⟨_, _, _, e, q⟩ => (by cases e; exact q), fun q => ⟨_, _, _, rfl, q⟩⟩
@[simp ↓] theorem wS_Break (ρ : Rho) (h : Hs) (Q : QS) : wS sBreak ρ h Q = Q .bk ρ h := propext ⟨fun ⟨_, _, _, e, q⟩ => (by cases e; exact q), fun q => ⟨_, _, _, rfl, q⟩⟩
@[simp ↓] theorem wS_Cont (ρ : Rho) (h : Hs) (Q : QS) : wS sCont ρ h Q = Q .ct ρ h := propext ⟨fun ⟨_, _, _, e, q⟩ => (by cases e; exact q), fun q => ⟨_, _, _, rfl, q⟩⟩
@[simp ↓] theorem wS_RetN (ρ : Rho) (h : Hs) (Q : QS) : wS sRetN ρ h Q = Q (.rt .non) ρ h := propext ⟨fun ⟨_, _, _, e, q⟩ => (by cases e; exact q), fun q => ⟨_, _, _, rfl, q⟩⟩
@[simp ↓] theorem wS_Seq (a b : SM) (ρ : Rho) (h : Hs) (Q : QS) : wS (sSeq a b) ρ h Q = wS a ρ h (seqK b Q) := propext ⟨fun ⟨f, ρ', h', e, q⟩ => (by
  unfold sSeq at e
  split at e
  · rename_i ρ1 h1 e1
    exact ⟨_, _, _, e1, f, ρ', h', e, q⟩
  · rename_i r hr
    refine ⟨f, ρ', h', e, ?_⟩
    cases f with
    | nx => exact (hr _ _ e).elim
    | _ => exact q), fun ⟨f, ρ', h', e, q⟩ => by
  cases f with
  | nx => obtain ⟨f2, ρ2, h2, e2, q2⟩ := q
          exact ⟨f2, ρ2, h2, by unfold sSeq; rw [e]; exact e2, q2⟩
  | _ => exact ⟨_, _, _, by unfold sSeq; rw [e], q⟩⟩
@[simp ↓] theorem wS_Set (me : EM) (g : GM) (ρ : Rho) (h : Hs) (Q : QS) : wS (sSet me g) ρ h Q = wE me ρ h (fun d h1 => wG g d ρ h1 (fun ρ2 h2 => Q .nx ρ2 h2)) := propext ⟨fun ⟨f, ρ', h', e, q⟩ => (by
  unfold sSet at e
  obtain ⟨⟨o, h1⟩, e1, e⟩ := bind_some e
  cases z : g o ρ h1 with
  | none => dsimp only at e; rw [z] at e; cases e
  | some r => dsimp only at e; rw [z] at e; cases e; exact ⟨_, _, e1, _, _, z, q⟩), fun ⟨o, h1, e1, ρ2, h2, e2, q⟩ => ⟨_, _, _, by unfold sSet; rw [e1]; show (Option.map _ (g o ρ h1)) = _; rw [e2]; rfl, q⟩⟩
@[simp ↓] theorem wS_Expr (me : EM) (ρ : Rho) (h : Hs) (Q : QS) : wS (sExpr me) ρ h Q = wE me ρ h (fun _ h1 => Q .nx ρ h1) := propext ⟨fun ⟨f, ρ', h', e, q⟩ => (by
  unfold sExpr at e
  cases z : me ρ h with
  | none => rw [z] at e; cases e
  | some r => rw [z] at e; cases e; exact ⟨_, _, z, q⟩), fun ⟨o, h1, e1, q⟩ => ⟨_, _, _, by unfold sExpr; rw [show me ρ h = _ from e1]; rfl, q⟩⟩
@[simp ↓] theorem wS_Ret (me : EM) (ρ : Rho) (h : Hs) (Q : QS) : wS (sRet me) ρ h Q = wE me ρ h (fun d h1 => Q (.rt d) ρ h1) := propext ⟨fun ⟨f, ρ', h', e, q⟩ => (by
  unfold sRet at e
  cases z : me ρ h with
  | none => rw [z] at e; cases e
  | some r => rw [z] at e; cases e; exact ⟨_, _, z, q⟩), fun ⟨o, h1, e1, q⟩ => ⟨_, _, _, by unfold sRet; rw [show me ρ h = _ from e1]; rfl, q⟩⟩
@[simp ↓] theorem wS_If (mt : BM) (a b : SM) (ρ : Rho) (h : Hs) (Q : QS) : wS (sIf mt a b) ρ h Q = wB mt ρ h (fun c h1 => if c = true then wS a ρ h1 Q else wS b ρ h1 Q) := propext ⟨fun ⟨f, ρ', h', e, q⟩ => (by
  unfold sIf at e
  obtain ⟨⟨o, h1⟩, e1, e⟩ := bind_some e
  refine ⟨_, _, e1, ?_⟩
  cases o
  · exact ⟨f, ρ', h', e, q⟩
  · exact ⟨f, ρ', h', e, q⟩), fun ⟨o, h1, e1, w⟩ => by
  cases o
  · obtain ⟨f, ρ', h', e, q⟩ := w; exact ⟨f, ρ', h', by unfold sIf; rw [e1]; exact e, q⟩
  · obtain ⟨f, ρ', h', e, q⟩ := w; exact ⟨f, ρ', h', by unfold sIf; rw [e1]; exact e, q⟩⟩
@[simp ↓] theorem wS_Aug (i : Nat) (me : EM) (g : O2) (ρ : Rho) (h : Hs) (Q : QS) : wS (sAug i me g) ρ h Q = wE (mVar i) ρ h (fun x h0 => wE me ρ h0 (fun y h1 => wO (g x y h1) (fun d h2 => Q .nx (ρ.set i (some d)) h2))) := propext ⟨fun ⟨f, ρ', h', e, q⟩ => (by
  unfold sAug at e
  obtain ⟨⟨o, h1⟩, e1, e⟩ := bind_some e
  obtain ⟨⟨o2, h2⟩, e2, e⟩ := bind_some e
  cases z : g o o2 h2 with
  | none => dsimp only at e; rw [z] at e; cases e
  | some r => dsimp only at e; rw [z] at e; cases e; exact ⟨_, _, e1, _, _, e2, _, _, z, q⟩), fun ⟨o, h1, e1, o2, h2, e2, d, h3, z, q⟩ => ⟨_, _, _, by unfold sAug; rw [show mVar i ρ h = _ from e1]; show ((me ρ h1).bind _) = _; rw [e2]; show (Option.map _ (g o o2 h2)) = _; rw [z]; rfl, q⟩⟩
@[simp ↓] theorem wS_Par (is : List Nat) (ma : AM) (ρ : Rho) (h : Hs) (Q : QS) : wS (sPar is ma) ρ h Q = wA ma ρ h (fun ds h1 => ds.length = is.length ∧ Q .nx (setAll ρ is ds) h1) := propext ⟨fun ⟨f, ρ', h', e, q⟩ => (by
  unfold sPar at e
  obtain ⟨⟨o, h1⟩, e1, e⟩ := bind_some e
  by_cases hn : o.length = is.length
  · rw [if_pos hn] at e; cases e; exact ⟨_, _, e1, hn, q⟩
  · rw [if_neg hn] at e; cases e), fun ⟨o, h1, e1, hn, q⟩ => ⟨_, _, _, by unfold sPar; rw [e1]; show (if _ then _ else _) = _; rw [if_pos hn], q⟩⟩
def wFor (gd : Gd) (g : GM) (body : SM) (xs : List D) (ρ : Rho) (h : Hs) (Q : QS) : Prop := wS (forM gd g body xs) ρ h Q
@[simp ↓] theorem wS_For (mi : IM) (g : GM) (body : SM) (ρ : Rho) (h : Hs) (Q : QS) : wS (sFor mi g body) ρ h Q = wI mi ρ h (fun xs gd h1 => wFor gd g body xs ρ h1 Q) := propext ⟨fun ⟨f, ρ', h', e, q⟩ => (by
  unfold sFor at e
  obtain ⟨⟨⟨xs, gd⟩, h1⟩, e1, e⟩ := bind_some e
  exact ⟨_, _, _, e1, f, ρ', h', e, q⟩), fun ⟨xs, gd, h1, e1, f, ρ', h', e, q⟩ => ⟨_, _, _, by unfold sFor; rw [e1]; exact e, q⟩⟩
/-! ### loops -/
def loopK (I : Rho → Hs → Prop) (Q : QS) : QS := fun f ρ h => match f with
  | .nx => I ρ h
  | .ct => I ρ h
  | .bk => Q .nx ρ h
  | .rt d => Q (.rt d) ρ h
@[simp ↓] theorem loopK_nx (I : Rho → Hs → Prop) (Q : QS) (ρ : Rho) (h : Hs) : loopK I Q .nx ρ h = I ρ h := rfl
@[simp ↓] theorem loopK_ct (I : Rho → Hs → Prop) (Q : QS) (ρ : Rho) (h : Hs) : loopK I Q .ct ρ h = I ρ h := rfl
@[simp ↓] theorem loopK_bk (I : Rho → Hs → Prop) (Q : QS) (ρ : Rho) (h : Hs) : loopK I Q .bk ρ h = Q .nx ρ h := rfl
@[simp ↓] theorem loopK_rt (I : Rho → Hs → Prop) (Q : QS) (d : D) (ρ : Rho) (h : Hs) : loopK I Q (.rt d) ρ h = Q (.rt d) ρ h := rfl
theorem wFor_nil {gd : Gd} {g : GM} {body : SM} {ρ : Rho} {h : Hs} {Q : QS} (hg : gOk gd h) (q : Q .nx ρ h) : wFor gd g body [] ρ h Q := ⟨_, _, _, by unfold forM; rw [if_pos hg], q⟩
theorem wFor_cons {gd : Gd} {g : GM} {body : SM} {x : D} {xs : List D} {ρ : Rho} {h : Hs} {Q : QS} (hg : gOk gd h) (w : wG g x ρ h (fun ρ1 h1 => wS body ρ1 h1 (loopK (fun ρ2 h2 => wFor gd g body xs ρ2 h2 Q) Q))) : wFor gd g body (x :: xs) ρ h Q := by
  obtain ⟨ρ1, h1, e1, f, ρ2, h2, e2, q⟩ := w
  cases f with
  | nx => obtain ⟨f3, ρ3, h3, e3, q3⟩ := q
          exact ⟨f3, ρ3, h3, by unfold forM; rw [if_pos hg, e1]; dsimp only [Option.bind_some]; rw [e2]; exact e3, q3⟩
  | ct => obtain ⟨f3, ρ3, h3, e3, q3⟩ := q
          exact ⟨f3, ρ3, h3, by unfold forM; rw [if_pos hg, e1]; dsimp only [Option.bind_some]; rw [e2]; exact e3, q3⟩
  | bk => exact ⟨_, _, _, by unfold forM; rw [if_pos hg, e1]; dsimp only [Option.bind_some]; rw [e2], q⟩
  | rt d => exact ⟨_, _, _, by unfold forM; rw [if_pos hg, e1]; dsimp only [Option.bind_some]; rw [e2], q⟩
/-- a loop by its invariant: after i turns -/
theorem wFor_inv {gd : Gd} {g : GM} {body : SM} {xs : List D} {ρ : Rho} {h : Hs} {Q : QS} (I : Nat → Rho → Hs → Prop) (h0 : I 0 ρ h)
    (step : ∀ (i : Nat) (x : D) (ρ : Rho) (h : Hs), xs[i]? = some x → I i ρ h → gOk gd h ∧ wG g x ρ h (fun ρ1 h1 => wS body ρ1 h1 (loopK (I (i + 1)) Q)))
    (fin : ∀ (ρ : Rho) (h : Hs), I xs.length ρ h → gOk gd h ∧ Q .nx ρ h) : wFor gd g body xs ρ h Q := by
  have : ∀ (n i : Nat) (ρ : Rho) (h : Hs), n + i = xs.length → I i ρ h → wFor gd g body (xs.drop i) ρ h Q := by
    intro n
    induction n with
    | zero =>
      intro i ρ h hn hi
      have : i = xs.length := by omega
      subst this
      rw [List.drop_length]
      obtain ⟨a, b⟩ := fin ρ h hi
      exact wFor_nil a b
    | succ n ih =>
      intro i ρ h hn hi
      have hl : i < xs.length := by omega
      rw [List.drop_eq_getElem_cons hl]
      obtain ⟨a, b⟩ := step i xs[i] ρ h (List.getElem?_eq_getElem hl) hi
      refine wFor_cons a (b.imp fun ρ1 h1 w => w.imp fun f ρ2 h2 q => ?_)
      cases f with
      | nx => exact ih (i + 1) ρ2 h2 (by omega) q
      | ct => exact ih (i + 1) ρ2 h2 (by omega) q
      | bk => exact q
      | rt d => exact q
  have := this xs.length 0 ρ h (by omega) h0
  rwa [List.drop_zero] at this
/-! ### comprehensions -/
def wLc (gd : Gd) (g : GM) (mt : BM) (me : EM) (ρ0 : Rho) (n0 : Nat) (xs : List D) (h : Hs) (Q : Hs → Prop) : Prop := ∃ h', lcLoop gd g mt me ρ0 n0 xs h = some h' ∧ Q h'
@[simp ↓] theorem wE_Lc (mi : IM) (g : GM) (mt : BM) (me : EM) (vs : List Nat) (ρ : Rho) (h : Hs) (Q : QE) : wE (mLc mi g mt me vs) ρ h Q = wI mi ρ h (fun xs gd h1 => wLc gd g mt me (wipeR ρ vs) h1.length xs (h1 ++ [.lst []]) (fun h2 => Q (.loc h1.length) h2)) := propext ⟨fun ⟨d, h', e, q⟩ => (by
  unfold mLc at e
  obtain ⟨⟨⟨xs, gd⟩, h1⟩, e1, e⟩ := bind_some e
  cases z : lcLoop gd g mt me (wipeR ρ vs) h1.length xs (h1 ++ [.lst []]) with
  | none => dsimp only at e; rw [z] at e; cases e
  | some h2 => dsimp only at e; rw [z] at e; cases e; exact ⟨_, _, _, e1, _, z, q⟩), fun ⟨xs, gd, h1, e1, h2, z, q⟩ => ⟨_, _, by unfold mLc; rw [e1]; show (Option.map _ (lcLoop _ _ _ _ _ _ _ _)) = _; rw [z]; rfl, q⟩⟩
theorem wLc_nil {gd : Gd} {g : GM} {mt : BM} {me : EM} {ρ0 : Rho} {n0 : Nat} {h : Hs} {Q : Hs → Prop} (hg : gOk gd h) (q : Q h) : wLc gd g mt me ρ0 n0 [] h Q := ⟨h, by unfold lcLoop; rw [if_pos hg], q⟩
theorem wLc_cons {gd : Gd} {g : GM} {mt : BM} {me : EM} {ρ0 : Rho} {n0 : Nat} {x : D} {xs : List D} {h : Hs} {Q : Hs → Prop} (hg : gOk gd h)
    (w : wG g x ρ0 h (fun ρ1 h1 => wB mt ρ1 h1 (fun b h2 => if b = true then wE me ρ1 h2 (fun y h3 => ∃ acc, h3[n0]? = some (.lst acc) ∧ acc.length < sizeLine ∧ wLc gd g mt me ρ0 n0 xs (h3.set n0 (.lst (acc ++ [y]))) Q) else wLc gd g mt me ρ0 n0 xs h2 Q))) : wLc gd g mt me ρ0 n0 (x :: xs) h Q := by
  obtain ⟨ρ1, h1, e1, b, h2, e2, w⟩ := w
  cases b
  · obtain ⟨h4, e4, q⟩ := w
    exact ⟨h4, by unfold lcLoop; rw [if_pos hg, e1]; show ((mt ρ1 h1).bind _) = _; rw [e2]; exact e4, q⟩
  · obtain ⟨y, h3, e3, acc, e5, hl, h4, e4, q⟩ := w
    exact ⟨h4, by unfold lcLoop; rw [if_pos hg, e1]; show ((mt ρ1 h1).bind _) = _; rw [e2]; show ((me ρ1 h2).bind _) = _; rw [e3]; dsimp only [Option.bind_some]; rw [e5]; show (if _ then _ else _) = _; rw [if_pos hl]; exact e4, q⟩
/-! ### a def -/
theorem wF_run {m : SM} {size : Nat} {ds : List D} {h : Hs} {Q : QE} (w : wS m (ds.map some ++ List.replicate (size - ds.length) none) h (fun f ρ h' => match f with
    | .rt d => Q d h'
    | .nx => Q .non h'
    | _ => False)) : wF (runF m size) ds h Q := by
  obtain ⟨f, ρ', h', e, q⟩ := w
  cases f with
  | nx => exact ⟨_, _, by unfold runF; rw [e], q⟩
  | rt d => exact ⟨_, _, by unfold runF; rw [e], q⟩
  | _ => exact q.elim
def retK (Q : QE) : QS := fun f ρ h' => match f with
  | .rt d => Q d h'
  | .nx => Q .non h'
  | _ => False
@[simp ↓] theorem retK_rt (Q : QE) (d : D) (ρ : Rho) (h : Hs) : retK Q (.rt d) ρ h = Q d h := rfl
@[simp ↓] theorem retK_nx (Q : QE) (ρ : Rho) (h : Hs) : retK Q .nx ρ h = Q .non h := rfl
theorem wF_runK {m : SM} {size : Nat} {ds : List D} {h : Hs} {Q : QE} (w : wS m (ds.map some ++ List.replicate (size - ds.length) none) h (retK Q)) : wF (runF m size) ds h Q := wF_run w
end MP

/-! text Mini16 -/
set_option Elab.async false
set_option linter.all false
set_option maxRecDepth 100000
set_option maxHeartbeats 4000000
/-! Plain facts for walking the shallow terms by simp: operations at constructors, frames, comprehensions. -/
namespace MP
open PySem PySem.Spec PyProof.Rows
open L2 hiding St

/-! ### the heap's frames -/
/-- all places of h but those of ms stand in h' as they stood -/
structure Fm (ms : List Nat) (h h' : Hs) : Prop where
  len : h.length ≤ h'.length
  at_ : ∀ l, l < h.length → l ∉ ms → h'[l]? = h[l]?
theorem lt_of_get {h : Hs} {l : Nat} {o : AO} (e : h[l]? = some o) : l < h.length := (List.getElem?_eq_some_iff.mp e).1
@[simp] theorem Fm.refl (ms : List Nat) (h : Hs) : Fm ms h h := ⟨Nat.le_refl _, fun _ _ _ => rfl⟩
theorem Fm.get {ms : List Nat} {h h' : Hs} {l : Nat} {o : AO} (f : Fm ms h h') (e : h[l]? = some o) (n : l ∉ ms) : h'[l]? = some o := by rw [f.at_ l (lt_of_get e) n, e]
theorem Fm.get0 {h h' : Hs} {l : Nat} {o : AO} (f : Fm [] h h') (e : h[l]? = some o) : h'[l]? = some o := f.get e (by simp)
theorem Fm.trans {ms : List Nat} {h h' h'' : Hs} (a : Fm ms h h') (b : Fm ms h' h'') : Fm ms h h'' := ⟨Nat.le_trans a.len b.len, fun l hl hn => by rw [b.at_ l (Nat.lt_of_lt_of_le hl a.len) hn, a.at_ l hl hn]⟩
/-- a further step that writes only allowed or new places -/
theorem Fm.then {ms ns : List Nat} {h h' h'' : Hs} (a : Fm ms h h') (b : Fm ns h' h'') (c : ∀ l ∈ ns, l ∈ ms ∨ h.length ≤ l) : Fm ms h h'' :=
  ⟨Nat.le_trans a.len b.len, fun l hl hn => by
    rw [b.at_ l (Nat.lt_of_lt_of_le hl a.len) fun z => (c l z).elim hn (fun q => by omega), a.at_ l hl hn]⟩
theorem Fm.then0 {ms : List Nat} {h h' h'' : Hs} (a : Fm ms h h') (b : Fm [] h' h'') : Fm ms h h'' := a.then b (by simp)
theorem Fm.then1 {ms : List Nat} {n : Nat} {h h' h'' : Hs} (a : Fm ms h h') (b : Fm [n] h' h'') (c : n ∈ ms ∨ h.length ≤ n) : Fm ms h h'' := a.then b (by simpa using c)
theorem Fm.app {ms : List Nat} {h h' : Hs} (a : Fm ms h h') (e : List AO) : Fm ms h (h' ++ e) :=
  ⟨by rw [List.length_append]; have := a.len; omega, fun l hl hn => by rw [List.getElem?_append_left (Nat.lt_of_lt_of_le hl a.len)]; exact a.at_ l hl hn⟩
theorem Fm.set {ms : List Nat} {h h' : Hs} (a : Fm ms h h') {n : Nat} (o : AO) (c : n ∈ ms ∨ h.length ≤ n) : Fm ms h (h'.set n o) :=
  ⟨by rw [List.length_set]; exact a.len, fun l hl hn => by rw [List.getElem?_set_ne (by rintro rfl; rcases c with c | c; exact hn c; omega)]; exact a.at_ l hl hn⟩
theorem Fm.mono {ms ns : List Nat} {h h' : Hs} (a : Fm ms h h') (c : ∀ l ∈ ms, l ∈ ns) : Fm ns h h' := ⟨a.len, fun l hl hn => a.at_ l hl fun z => hn (c l z)⟩
theorem Fm.of0 {ms : List Nat} {h h' : Hs} (a : Fm [] h h') : Fm ms h h' := a.mono (by simp)
theorem app_get {h : Hs} {l : Nat} {o : AO} (e : h[l]? = some o) (x : List AO) : (h ++ x)[l]? = some o := by rw [List.getElem?_append_left (lt_of_get e)]; exact e
theorem app_new (h : Hs) (o : AO) : (h ++ [o])[h.length]? = some o := by simp
theorem set_get {h : Hs} {l : Nat} {o o' : AO} (e : h[l]? = some o') : (h.set l o)[l]? = some o := by rw [List.getElem?_set_self (lt_of_get e)]
theorem set_oth {h : Hs} {l m : Nat} {o o' : AO} (e : h[l]? = some o) (n : m ≠ l) : (h.set m o')[l]? = some o := by rw [List.getElem?_set_ne n]; exact e
theorem items_lst {h : Hs} {n : Nat} {xs : List D} (e : h[n]? = some (.lst xs)) : itemsAt h n = some xs := by unfold itemsAt; rw [e]
theorem items_frz {h : Hs} {n : Nat} {ns : List Int} (e : h[n]? = some (.frz ns)) : itemsAt h n = some (ns.map D.int) := by unfold itemsAt; rw [e]
/-- the things of a list that may be written -/
def lstAt (h : Hs) (n : Nat) : Option (List D) := match h[n]? with
  | some (.lst xs) => some xs
  | _ => none
/-- a list stands there -/
def Ls (h : Hs) (n : Nat) (xs : List D) : Prop := h[n]? = some (.lst xs)
theorem Ls.i {h : Hs} {n : Nat} {xs : List D} (e : Ls h n xs) : itemsAt h n = some xs := items_lst e
theorem Ls.l {h : Hs} {n : Nat} {xs : List D} (e : Ls h n xs) : lstAt h n = some xs := by unfold lstAt; rw [show h[n]? = _ from e]
theorem Ls.lt {h : Hs} {n : Nat} {xs : List D} (e : Ls h n xs) : n < h.length := lt_of_get e
theorem Ls.new (h : Hs) (xs : List D) : Ls (h ++ [.lst xs]) h.length xs := app_new h _
theorem Ls.app {h : Hs} {n : Nat} {xs : List D} (e : Ls h n xs) (x : List AO) : Ls (h ++ x) n xs := app_get e x
theorem Ls.keep {h h' : Hs} {n : Nat} {xs : List D} {ms : List Nat} (e : Ls h n xs) (f : Fm ms h h') (c : n ∉ ms) : Ls h' n xs := f.get e c
theorem Ls.keep0 {h h' : Hs} {n : Nat} {xs : List D} (e : Ls h n xs) (f : Fm [] h h') : Ls h' n xs := f.get0 e
theorem Ls.set {h : Hs} {n : Nat} {xs : List D} (e : Ls h n xs) (ys : List D) : Ls (h.set n (.lst ys)) n ys := set_get e
theorem Ls.oth {h : Hs} {n m : Nat} {xs : List D} {o : AO} (e : Ls h n xs) (c : m ≠ n) : Ls (h.set m o) n xs := set_oth e c
@[simp] theorem lst_set_self {h : Hs} {n : Nat} {xs : List D} (hl : n < h.length) : lstAt (h.set n (.lst xs)) n = some xs := by unfold lstAt; rw [List.getElem?_set_self hl]
@[simp] theorem lst_set_ne {h : Hs} {n m : Nat} {o : AO} (hn : n ≠ m) : lstAt (h.set n o) m = lstAt h m := by unfold lstAt; rw [List.getElem?_set_ne hn]
@[simp] theorem lst_app_new {h : Hs} {xs : List D} : lstAt (h ++ [.lst xs]) h.length = some xs := (Ls.new h xs).l
@[simp] theorem lst_app_old {h : Hs} {m : Nat} {e : List AO} (hl : m < h.length) : lstAt (h ++ e) m = lstAt h m := by unfold lstAt; rw [List.getElem?_append_left hl]
@[simp] theorem items_set_self {h : Hs} {n : Nat} {xs : List D} (hl : n < h.length) : itemsAt (h.set n (.lst xs)) n = some xs := items_lst (by rw [List.getElem?_set_self hl])
@[simp] theorem items_set_ne {h : Hs} {n m : Nat} {o : AO} (hn : n ≠ m) : itemsAt (h.set n o) m = itemsAt h m := by unfold itemsAt; rw [List.getElem?_set_ne hn]
@[simp] theorem items_app_new {h : Hs} {xs : List D} : itemsAt (h ++ [.lst xs]) h.length = some xs := items_lst (app_new h _)
@[simp] theorem items_app_old {h : Hs} {m : Nat} {e : List AO} (hl : m < h.length) : itemsAt (h ++ e) m = itemsAt h m := by unfold itemsAt; rw [List.getElem?_append_left hl]
@[simp] theorem get_set_self' {h : Hs} {n : Nat} {o : AO} (hl : n < h.length) : (h.set n o)[n]? = some o := by rw [List.getElem?_set_self hl]
@[simp] theorem isLst_lt {h : Hs} {n : Nat} (hl : n < h.length) : isLst h (.loc n) = true := by
  show (match h[n]? with | some _ => true | none => false) = true
  rw [List.getElem?_eq_getElem hl]
theorem isLst_of {h : Hs} {n : Nat} {o : AO} (e : h[n]? = some o) : isLst h (.loc n) = true := by show (match h[n]? with | some _ => true | none => false) = true; rw [e]

@[simp] theorem wipeR_nil (ρ : Rho) : wipeR ρ [] = ρ := rfl
@[simp] theorem wipeR_cons (ρ : Rho) (v : Nat) (vs : List Nat) : wipeR ρ (v :: vs) = (wipeR ρ vs).set v none := rfl
@[simp] theorem setAll_nil (ρ : Rho) (ds : List D) : setAll ρ [] ds = ρ := by cases ds <;> rfl
@[simp] theorem setAll_cons (ρ : Rho) (i : Nat) (is : List Nat) (d : D) (ds : List D) : setAll ρ (i :: is) (d :: ds) = setAll (ρ.set i (some d)) is ds := rfl
/-! ### operations at constructors -/
section
variable (h : Hs)
@[simp] theorem add_ii (i j : Int) : addD (.int i) (.int j) h = some (.int (i + j), h) := rfl
@[simp] theorem add_tt (xs ys : List D) : addD (.tup xs) (.tup ys) h = if xs.length + ys.length ≤ sizeLine then some (.tup (xs ++ ys), h) else none := rfl
@[simp] theorem add_ss (a b : Str) : addD (.str a) (.str b) h = if a.length + b.length ≤ sizeLine then some (.str (a ++ b), h) else none := rfl
@[simp] theorem sub_ii (i j : Int) : subD (.int i) (.int j) h = some (.int (i - j), h) := rfl
@[simp] theorem mul_ii (i j : Int) : mulD (.int i) (.int j) h = if smul i j = true then some (.int (i * j), h) else none := rfl
@[simp] theorem mul_si (a : Str) (j : Int) : mulD (.str a) (.int j) h = if a.length ≤ 1000 ∧ -1000 ≤ j ∧ j ≤ 1000 then some (.str (Txt.mul a j), h) else none := rfl
@[simp] theorem mod_ii (i j : Int) : modD (.int i) (.int j) h = if 0 < j then some (.int (i % j), h) else none := rfl
@[simp] theorem fdiv_ii (i j : Int) : fdivD (.int i) (.int j) h = if 0 < j ∧ j < 1073741824 then some (.int (i / j), h) else none := rfl
@[simp] theorem pow_ii (i j : Int) : powD (.int i) (.int j) h = if 0 ≤ j ∧ j ≤ 1000000 ∧ i.natAbs < 2 ^ 64 then some (.int (i ^ j.toNat), h) else none := rfl
@[simp] theorem neg_i (i : Int) : negO (.int i) h = some (.int (-i), h) := rfl
@[simp] theorem smul_r {i j : Int} (hj : -(2 ^ 64) < j) (hj' : j < 2 ^ 64) : smul i j = true := by unfold smul; rw [decide_eq_true hj, decide_eq_true hj']; simp
@[simp] theorem smul_l {i j : Int} (hj : -(2 ^ 64) < i) (hj' : i < 2 ^ 64) : smul i j = true := by unfold smul; rw [decide_eq_true hj, decide_eq_true hj']; simp
/- order -/
@[simp] theorem lt_ii (i j : Int) : ltO (.int i) (.int j) h = some (.bl (decide (i < j)), h) := rfl
@[simp] theorem le_ii (i j : Int) : leO (.int i) (.int j) h = some (.bl (decide (i ≤ j)), h) := rfl
@[simp] theorem gt_ii (i j : Int) : gtO (.int i) (.int j) h = some (.bl (decide (j < i)), h) := rfl
@[simp] theorem ge_ii (i j : Int) : geO (.int i) (.int j) h = some (.bl (decide (j ≤ i)), h) := rfl
/- equality of scalars -/
@[simp] theorem eq_ii (i j : Int) : eqO (.int i) (.int j) h = some (.bl (decide (i = j)), h) := rfl
@[simp] theorem eq_ss (i j : Str) : eqO (.str i) (.str j) h = some (.bl (decide (i = j)), h) := rfl
@[simp] theorem eq_bb (i j : Bool) : eqO (.bl i) (.bl j) h = some (.bl (decide (i = j)), h) := rfl
@[simp] theorem eq_nn : eqO .non .non h = some (.bl true, h) := rfl
@[simp] theorem eq_ni (i : Int) : eqO .non (.int i) h = some (.bl false, h) := rfl
@[simp] theorem eq_in (i : Int) : eqO (.int i) .non h = some (.bl false, h) := rfl
@[simp] theorem eq_ns (i : Str) : eqO .non (.str i) h = some (.bl false, h) := rfl
@[simp] theorem eq_sn (i : Str) : eqO (.str i) .non h = some (.bl false, h) := rfl
@[simp] theorem eq_is (i : Int) (j : Str) : eqO (.int i) (.str j) h = some (.bl false, h) := rfl
@[simp] theorem eq_si (i : Str) (j : Int) : eqO (.str i) (.int j) h = some (.bl false, h) := rfl
@[simp] theorem ne_ii (i j : Int) : neO (.int i) (.int j) h = some (.bl (!decide (i = j)), h) := rfl
@[simp] theorem ne_ss (i j : Str) : neO (.str i) (.str j) h = some (.bl (!decide (i = j)), h) := rfl
@[simp] theorem ne_bb (i j : Bool) : neO (.bl i) (.bl j) h = some (.bl (!decide (i = j)), h) := rfl
@[simp] theorem ne_sn (i : Str) : neO (.str i) .non h = some (.bl true, h) := rfl
@[simp] theorem ne_ns (i : Str) : neO .non (.str i) h = some (.bl true, h) := rfl
@[simp] theorem is_n (x : D) : isO x .non h = some (.bl x.isNon, h) := rfl
@[simp] theorem isNot_n (x : D) : isNotO x .non h = some (.bl (!x.isNon), h) := rfl
@[simp] theorem isNon_non : D.isNon .non = true := rfl
@[simp] theorem isNon_bl (b : Bool) : D.isNon (.bl b) = false := rfl
@[simp] theorem isNon_int (b : Int) : D.isNon (.int b) = false := rfl
@[simp] theorem isNon_str (b : Str) : D.isNon (.str b) = false := rfl
@[simp] theorem isNon_tup (b : List D) : D.isNon (.tup b) = false := rfl
@[simp] theorem isNon_loc (b : Nat) : D.isNon (.loc b) = false := rfl
/- truth -/
@[simp] theorem tru_bl (b : Bool) : truD h (.bl b) = some b := rfl
@[simp] theorem tru_non : truD h .non = some false := rfl
@[simp] theorem tru_int (i : Int) : truD h (.int i) = some (i != 0) := rfl
@[simp] theorem tru_tup (xs : List D) : truD h (.tup xs) = some (!xs.isEmpty) := rfl
@[simp] theorem tru_loc (n : Nat) : truD h (.loc n) = (itemsAt h n).map fun xs => !xs.isEmpty := rfl
/- len -/
@[simp] theorem len_tup (xs : List D) : lenN [.tup xs] h = some (.int xs.length, h) := rfl
@[simp] theorem len_loc (n : Nat) : lenN [.loc n] h = (itemsAt h n).map fun xs => (.int xs.length, h) := by show ((Option.map List.length (itemsAt h n)).map _) = _; cases itemsAt h n <;> rfl
@[simp] theorem len_str (x : Str) : lenN [.str x] h = if x.length ≤ sizeLine then some (.int x.length, h) else none := by show (Option.map _ (if _ then _ else _)) = _; split <;> rfl
/- places -/
@[simp] theorem seq_tup (xs : List D) : seqAt h (.tup xs) = some xs := rfl
@[simp] theorem seq_loc (n : Nat) : seqAt h (.loc n) = itemsAt h n := rfl
@[simp] theorem ix_tup (xs : List D) (i : Int) : ixO (.tup xs) (.int i) h = (atI xs i).map fun d => (d, h) := rfl
@[simp] theorem ix_loc (n : Nat) (i : Int) : ixO (.loc n) (.int i) h = match itemsAt h n with
    | some xs => (atI xs i).map fun d => (d, h)
    | none => none := rfl
@[simp] theorem ix_str (z : Str) (i : Int) : ixO (.str z) (.int i) h = if z.length ≤ sizeLine then (atI z.cps.toList i).map fun c => (.str ⟨#[c]⟩, h) else none := rfl
end
section
variable {α : Type} (xs : List α)
theorem atI_nat (k : Nat) : atI xs (k : Int) = xs[k]? := by
  unfold atI ixN
  rw [if_pos (by omega)]
  split
  · simp
  · rw [List.getElem?_eq_none (by omega)]; rfl
@[simp] theorem atI_cast (k : Nat) : atI xs (k : Int) = xs[k]? := atI_nat xs k
@[simp] theorem atI_0 : atI xs 0 = xs[0]? := atI_nat xs 0
@[simp] theorem atI_1 : atI xs 1 = xs[1]? := atI_nat xs 1
@[simp] theorem atI_2 : atI xs 2 = xs[2]? := atI_nat xs 2
@[simp] theorem atI_3 : atI xs 3 = xs[3]? := atI_nat xs 3
@[simp] theorem atI_4 : atI xs 4 = xs[4]? := atI_nat xs 4
@[simp] theorem atI_5 : atI xs 5 = xs[5]? := atI_nat xs 5
@[simp] theorem atI_6 : atI xs 6 = xs[6]? := atI_nat xs 6
@[simp] theorem atI_7 : atI xs 7 = xs[7]? := atI_nat xs 7
@[simp] theorem atI_8 : atI xs 8 = xs[8]? := atI_nat xs 8
@[simp] theorem atI_m1 : atI xs (-1) = xs.getLast? := by
  unfold atI ixN
  rw [if_neg (by omega)]
  cases xs with
  | nil => rfl
  | cons a r =>
    rw [if_pos (by simp; omega)]
    show (a :: r)[(-1 + ((a :: r).length : Int)).toNat]? = _
    rw [List.getLast?_eq_getElem?]
    congr 1
    simp
    omega
end
theorem ixN_nat {n k : Nat} (h : k < n) : ixN n (k : Int) = some k := by unfold ixN; rw [if_pos (by omega), if_pos (by omega)]; simp
@[simp] theorem set_loc (h : Hs) (n : Nat) (k : Int) (d : D) : setD (.loc n) (.int k) d h = match lstAt h n with
  | some xs => match ixN xs.length k with
    | some j => some (h.set n (.lst (xs.set j d)))
    | none => none
  | none => none := by
  unfold lstAt setD
  dsimp only
  cases q : h[n]? with
  | none => rfl
  | some o => cases o <;> rfl
/- calls of built-ins -/
section
variable (h : Hs)
@[simp] theorem int_i (i : Int) : intN [.int i] h = some (.int i, h) := rfl
@[simp] theorem int_b (b : Bool) : intN [.bl b] h = some (.int (if b then 1 else 0), h) := rfl
@[simp] theorem min_ii (i j : Int) : min2N [.int i, .int j] h = some (.int (if j < i then j else i), h) := rfl
@[simp] theorem max_ii (i j : Int) : max2N [.int i, .int j] h = some (.int (if j > i then j else i), h) := rfl
@[simp] theorem tuple_t (xs : List D) : tupleN [.tup xs] h = some (.tup xs, h) := rfl
@[simp] theorem tuple_l (n : Nat) : tupleN [.loc n] h = match itemsAt h n with
    | some xs => some (.tup xs, h)
    | none => none := rfl
@[simp] theorem list_t (xs : List D) : listN [.tup xs] h = some (.loc h.length, h ++ [.lst xs]) := rfl
@[simp] theorem list_l (n : Nat) : listN [.loc n] h = match itemsAt h n with
    | some xs => some (.loc h.length, h ++ [.lst xs])
    | none => none := rfl
@[simp] theorem app_l (n : Nat) (d : D) : appendM (.loc n) [d] h = match lstAt h n with
    | some xs => if xs.length < sizeLine then some (.non, h.set n (.lst (xs ++ [d]))) else none
    | none => none := by
  unfold lstAt appendM
  dsimp only
  cases q : h[n]? with
  | none => rfl
  | some o => cases o <;> rfl
/- isinstance -/
@[simp] theorem ii_int (i : Int) : isinstN [.int i, .ty "int"] h = some (.bl true, h) := rfl
@[simp] theorem ii_bool (i : Int) : isinstN [.int i, .ty "bool"] h = some (.bl false, h) := rfl
@[simp] theorem ii_str (i : Int) : isinstN [.int i, .ty "str"] h = some (.bl false, h) := rfl
@[simp] theorem ii_tuple (i : Int) : isinstN [.int i, .ty "tuple"] h = some (.bl false, h) := rfl
@[simp] theorem ii_list (i : Int) : isinstN [.int i, .ty "list"] h = some (.bl false, h) := rfl
@[simp] theorem is_int (i : Str) : isinstN [.str i, .ty "int"] h = some (.bl false, h) := rfl
@[simp] theorem is_bool (i : Str) : isinstN [.str i, .ty "bool"] h = some (.bl false, h) := rfl
@[simp] theorem is_str (i : Str) : isinstN [.str i, .ty "str"] h = some (.bl true, h) := rfl
@[simp] theorem is_tuple (i : Str) : isinstN [.str i, .ty "tuple"] h = some (.bl false, h) := rfl
@[simp] theorem is_list (i : Str) : isinstN [.str i, .ty "list"] h = some (.bl false, h) := rfl
@[simp] theorem ib_int (i : Bool) : isinstN [.bl i, .ty "int"] h = some (.bl true, h) := rfl
@[simp] theorem ib_bool (i : Bool) : isinstN [.bl i, .ty "bool"] h = some (.bl true, h) := rfl
@[simp] theorem ib_str (i : Bool) : isinstN [.bl i, .ty "str"] h = some (.bl false, h) := rfl
@[simp] theorem ib_tuple (i : Bool) : isinstN [.bl i, .ty "tuple"] h = some (.bl false, h) := rfl
@[simp] theorem ib_list (i : Bool) : isinstN [.bl i, .ty "list"] h = some (.bl false, h) := rfl
@[simp] theorem in_int : isinstN [.non, .ty "int"] h = some (.bl false, h) := rfl
@[simp] theorem in_bool : isinstN [.non, .ty "bool"] h = some (.bl false, h) := rfl
@[simp] theorem in_str : isinstN [.non, .ty "str"] h = some (.bl false, h) := rfl
@[simp] theorem in_tuple : isinstN [.non, .ty "tuple"] h = some (.bl false, h) := rfl
@[simp] theorem it_int (xs : List D) : isinstN [.tup xs, .ty "int"] h = some (.bl false, h) := rfl
@[simp] theorem it_bool (xs : List D) : isinstN [.tup xs, .ty "bool"] h = some (.bl false, h) := rfl
@[simp] theorem it_str (xs : List D) : isinstN [.tup xs, .ty "str"] h = some (.bl false, h) := rfl
@[simp] theorem it_tuple (xs : List D) : isinstN [.tup xs, .ty "tuple"] h = some (.bl true, h) := rfl
@[simp] theorem it_list (xs : List D) : isinstN [.tup xs, .ty "list"] h = some (.bl false, h) := rfl
@[simp] theorem it_tl (xs : List D) : isinstN [.tup xs, .tup [.ty "tuple", .ty "list"]] h = some (.bl true, h) := rfl
@[simp] theorem ii_tl (i : Int) : isinstN [.int i, .tup [.ty "tuple", .ty "list"]] h = some (.bl false, h) := rfl
@[simp] theorem ib_tl (i : Bool) : isinstN [.bl i, .tup [.ty "tuple", .ty "list"]] h = some (.bl false, h) := rfl
@[simp] theorem is_tl (i : Str) : isinstN [.str i, .tup [.ty "tuple", .ty "list"]] h = some (.bl false, h) := rfl
@[simp] theorem in_tl : isinstN [.non, .tup [.ty "tuple", .ty "list"]] h = some (.bl false, h) := rfl
end
/- slices -/
@[simp] theorem sl_tup (xs : List D) (lo hi : Option Int) (h : Hs) : slO (.tup xs) lo hi h = some (.tup ((xs.drop (HT.sIx xs.length 0 lo)).take (HT.sIx xs.length xs.length hi - HT.sIx xs.length 0 lo)), h) := rfl
@[simp] theorem sIx_no (n d : Nat) : HT.sIx n d none = d := rfl
@[simp] theorem sIx_0 (n d : Nat) : HT.sIx n d (some 0) = min 0 n := HT.sIx_nat n d 0
@[simp] theorem sIx_1 (n d : Nat) : HT.sIx n d (some 1) = min 1 n := HT.sIx_nat n d 1
@[simp] theorem sIx_2 (n d : Nat) : HT.sIx n d (some 2) = min 2 n := HT.sIx_nat n d 2
@[simp] theorem sIx_3 (n d : Nat) : HT.sIx n d (some 3) = min 3 n := HT.sIx_nat n d 3
@[simp] theorem sIx_4 (n d : Nat) : HT.sIx n d (some 4) = min 4 n := HT.sIx_nat n d 4
@[simp] theorem sIx_5 (n d : Nat) : HT.sIx n d (some 5) = min 5 n := HT.sIx_nat n d 5
@[simp] theorem sIx_6 (n d : Nat) : HT.sIx n d (some 6) = min 6 n := HT.sIx_nat n d 6
@[simp] theorem sIx_20 (n d : Nat) : HT.sIx n d (some 20) = min 20 n := HT.sIx_nat n d 20
@[simp] theorem sIx_cast (n d k : Nat) : HT.sIx n d (some (k : Int)) = min k n := HT.sIx_nat n d k
@[simp] theorem sl_loc (n : Nat) (lo hi : Option Int) (h : Hs) : slO (.loc n) lo hi h = match itemsAt h n with
    | some xs => some (.loc h.length, h ++ [.lst ((xs.drop (HT.sIx xs.length 0 lo)).take (HT.sIx xs.length xs.length hi - HT.sIx xs.length 0 lo))])
    | none => none := rfl
@[simp] theorem sqI_tup (h : Hs) (xs : List D) (Q : List D → Gd → Prop) : sqI h (.tup xs) Q = Q xs none := rfl
@[simp] theorem sqI_str (h : Hs) (x : Str) (Q : List D → Gd → Prop) : sqI h (.str x) Q = Q (x.cps.toList.map fun c => .str ⟨#[c]⟩) none := rfl
@[simp] theorem sqI_loc (h : Hs) (n : Nat) (Q : List D → Gd → Prop) : sqI h (.loc n) Q = ∃ xs, itemsAt h n = some xs ∧ Q xs (some (n, xs)) := rfl
@[simp] theorem sqE_tup (h : Hs) (xs : List D) (Q : List D → Gd → Prop) : sqE h (.tup xs) Q = Q (enumD xs) none := rfl
@[simp] theorem sqE_loc (h : Hs) (n : Nat) (Q : List D → Gd → Prop) : sqE h (.loc n) Q = ∃ xs, itemsAt h n = some xs ∧ Q (enumD xs) (some (n, xs)) := rfl
/- ranges, guards -/
@[simp] theorem gOk_none (h : Hs) : gOk none h = True := rfl
@[simp] theorem gOk_some (n : Nat) (xs : List D) (h : Hs) : gOk (some (n, xs)) h = (itemsAt h n = some xs) := rfl
theorem rangeD_at {lo c : Int} {n i : Nat} {x : D} (h : (rangeD lo c n)[i]? = some x) : i < n ∧ x = .int (lo + (i : Int) * c) := by
  unfold rangeD at h
  rw [List.getElem?_map] at h
  by_cases hi : i < n
  · rw [List.getElem?_range hi] at h; cases h; exact ⟨hi, rfl⟩
  · rw [List.getElem?_eq_none (by simp; omega)] at h; cases h
@[simp] theorem one_len (c : Nat) : (Str.mk #[c]).length = 1 := rfl
@[simp] theorem sizeLine_val : sizeLine = 16777216 := by decide
/-! ### sorted -/
theorem asStrs_map (xs : List Str) : asStrs (xs.map D.str) = some xs := by
  induction xs with
  | nil => rfl
  | cons x xs ih => show (asStrs (xs.map D.str)).map _ = _; rw [ih]; rfl
theorem asInts_map (xs : List Int) : asInts (xs.map D.int) = some xs := by
  induction xs with
  | nil => rfl
  | cons x xs ih => show (asInts (xs.map D.int)).map _ = _; rw [ih]; rfl
theorem asPairs_map (xs : List (Int × Int)) : asPairs (xs.map pairD) = some xs := by
  induction xs with
  | nil => rfl
  | cons x xs ih => show (asPairs (xs.map pairD)).map _ = _; rw [ih]; rfl
theorem sorted_strs {h : Hs} {n : Nat} {xs : List Str} (e : itemsAt h n = some (xs.map D.str)) (hl : xs.length < 64) : sortedN [.loc n] h = some (.loc h.length, h ++ [.lst ((sortS xs).map D.str)]) := by
  have e' : D.atItems h (.loc n) = some (xs.map D.str) := e
  unfold sortedN
  simp only [e', asStrs_map]
  cases xs with
  | nil => simp [sortS, sortI, asInts]
  | cons x xs => simp only [List.map_cons, asInts]; rw [if_pos hl]
theorem sorted_ints {h : Hs} {n : Nat} {xs : List Int} (e : itemsAt h n = some (xs.map D.int)) : sortedN [.loc n] h = some (.loc h.length, h ++ [.lst ((sortI xs).map D.int)]) := by
  have e' : D.atItems h (.loc n) = some (xs.map D.int) := e
  unfold sortedN
  simp only [e', asInts_map]
theorem sorted_pairs {h : Hs} {n : Nat} {xs : List (Int × Int)} (e : itemsAt h n = some (xs.map pairD)) : sortedN [.loc n] h = some (.loc h.length, h ++ [.lst ((sortP xs).map pairD)]) := by
  have e' : D.atItems h (.loc n) = some (xs.map pairD) := e
  unfold sortedN
  simp only [e', asPairs_map]
  cases xs with
  | nil => simp [sortP, sortI, asInts]
  | cons x xs => simp only [List.map_cons, asInts, asStrs, pairD]
theorem sortS_mem {xs : List Str} {x : Str} : x ∈ sortS xs ↔ x ∈ xs := (List.mergeSort_perm xs leS).mem_iff
theorem sortS_len (xs : List Str) : (sortS xs).length = xs.length := (List.mergeSort_perm xs leS).length_eq
theorem wsort_strs {h : Hs} {n : Nat} {xs : List Str} {Q : QE} (e : itemsAt h n = some (xs.map D.str)) (hl : xs.length < 64) (q : ∀ h', Fm [] h h' → Ls h' h.length ((sortS xs).map D.str) → Q (.loc h.length) h') : wO (sortedN [.loc n] h) Q := by
  rw [sorted_strs e hl, wO_some]
  exact q _ ((Fm.refl _ _).app _) (Ls.new _ _)
theorem wsort_ints {h : Hs} {n : Nat} {xs : List Int} {Q : QE} (e : itemsAt h n = some (xs.map D.int)) (q : ∀ h', Fm [] h h' → Ls h' h.length ((sortI xs).map D.int) → Q (.loc h.length) h') : wO (sortedN [.loc n] h) Q := by
  rw [sorted_ints e, wO_some]
  exact q _ ((Fm.refl _ _).app _) (Ls.new _ _)
theorem wsort_pairs {h : Hs} {n : Nat} {xs : List (Int × Int)} {Q : QE} (e : itemsAt h n = some (xs.map pairD)) (q : ∀ h', Fm [] h h' → Ls h' h.length ((sortP xs).map pairD) → Q (.loc h.length) h') : wO (sortedN [.loc n] h) Q := by
  rw [sorted_pairs e, wO_some]
  exact q _ ((Fm.refl _ _).app _) (Ls.new _ _)
/-! ### comprehensions by invariants -/
/-- what is gathered so far stands at n0; I speaks of the heap but not of n0 -/
theorem wLc_inv {gd : Gd} {g : GM} {mt : BM} {me : EM} {ρ0 : Rho} {n0 : Nat} {xs : List D} {h : Hs} {Q : Hs → Prop} (I : Nat → List D → Hs → Prop) (hn : h[n0]? = some (.lst [])) (hs : xs.length < sizeLine) (h0 : I 0 [] h)
    (gdk : ∀ i acc h, I i acc h → h[n0]? = some (.lst acc) → gOk gd h)
    (step : ∀ (i : Nat) (x : D) (acc : List D) (h : Hs), xs[i]? = some x → I i acc h → h[n0]? = some (.lst acc) → acc.length ≤ i → wG g x ρ0 h (fun ρ1 h1 => wB mt ρ1 h1 (fun b h2 => if b = true then wE me ρ1 h2 (fun y h3 => h3[n0]? = some (.lst acc) ∧ I (i + 1) (acc ++ [y]) (h3.set n0 (.lst (acc ++ [y])))) else h2[n0]? = some (.lst acc) ∧ I (i + 1) acc h2)))
    (fin : ∀ acc h, I xs.length acc h → h[n0]? = some (.lst acc) → Q h) : wLc gd g mt me ρ0 n0 xs h Q := by
  have : ∀ (n i : Nat) (acc : List D) (h : Hs), n + i = xs.length → acc.length ≤ i → h[n0]? = some (.lst acc) → I i acc h → wLc gd g mt me ρ0 n0 (xs.drop i) h Q := by
    intro n
    induction n with
    | zero =>
      intro i acc h hn ha he hi
      have : i = xs.length := by omega
      subst this
      rw [List.drop_length]
      exact wLc_nil (gdk _ _ _ hi he) (fin acc h hi he)
    | succ n ih =>
      intro i acc h hn ha he hi
      have hl : i < xs.length := by omega
      rw [List.drop_eq_getElem_cons hl]
      refine wLc_cons (gdk _ _ _ hi he) ((step i xs[i] acc h (List.getElem?_eq_getElem hl) hi he ha).imp fun ρ1 h1 w => w.imp fun b h2 w => ?_)
      cases b
      · rw [if_neg (by decide)] at w ⊢
        exact ih (i + 1) acc h2 (by omega) (by omega) w.1 w.2
      · rw [if_pos rfl] at w ⊢
        refine w.imp fun y h3 w => ⟨acc, w.1, by omega, ?_⟩
        exact ih (i + 1) _ _ (by omega) (by simp; omega) (set_get w.1) w.2
  have := this xs.length 0 [] h (by omega) (Nat.le_refl _) hn h0
  rwa [List.drop_zero] at this
/-- a comprehension that only looks: the heap grows, its things are those of the items that pass -/
theorem wLc_pure {gd : Gd} {g : GM} {mt : BM} {me : EM} {ρ0 : Rho} {xs : List D} {h : Hs} {Q : Hs → Prop} (t : D → Bool) (f : D → D) (hs : xs.length < sizeLine) (hgd : ∀ h', Fm [] h h' → gOk gd h')
    (step : ∀ (x : D) (h1 : Hs), x ∈ xs → Fm [] h h1 → wG g x ρ0 h1 (fun ρ1 h2 => Fm [] h1 h2 ∧ wB mt ρ1 h2 (fun b h3 => b = t x ∧ Fm [] h2 h3 ∧ (b = true → wE me ρ1 h3 (fun y h4 => y = f x ∧ Fm [] h3 h4)))))
    (fin : ∀ h', Fm [] h h' → h'[h.length]? = some (.lst ((xs.filter t).map f)) → Q h') : wLc gd g mt me ρ0 h.length xs (h ++ [.lst []]) Q := by
  refine wLc_inv (fun i acc h1 => Fm [] h h1 ∧ acc = ((xs.take i).filter t).map f) (app_new h _) hs ⟨(Fm.refl _ _).app _, by simp⟩ (fun i acc h1 hi _ => hgd _ hi.1) (fun i x acc h1 hx ⟨hi, ha⟩ he hl => ?_) (fun acc h1 ⟨hi, ha⟩ he => ?_)
  · refine (step x h1 (List.mem_of_getElem? hx) hi).imp fun ρ1 h2 ⟨F2, w⟩ => w.imp fun b h3 ⟨hb, F3, w⟩ => ?_
    have hlt : i < xs.length := (List.getElem?_eq_some_iff.mp hx).1
    have ht : xs.take (i + 1) = xs.take i ++ [x] := by rw [List.take_add_one, hx]; rfl
    cases b
    · rw [if_neg (by decide)]
      refine ⟨F3.get0 (F2.get0 he), (hi.trans F2).trans F3, ?_⟩
      rw [ht, List.filter_append, List.map_append, ← ha]
      simp [← hb]
    · rw [if_pos rfl]
      refine (w rfl).imp fun y h4 ⟨ey, F4⟩ => ⟨F4.get0 (F3.get0 (F2.get0 he)), ((((hi.trans F2).trans F3).trans F4).set _ (.inr (Nat.le_refl _))), ?_⟩
      rw [ht, List.filter_append, List.map_append, ← ha, ey]
      simp [← hb]
  · rw [List.take_length] at ha
    subst ha
    exact fin h1 hi he
end MP

/-! text Mini17 -/
set_option Elab.async false
set_option linter.all false
set_option maxRecDepth 100000
set_option maxHeartbeats 4000000
/-! == of plain data. -/
namespace MP
open PySem PySem.Spec PyProof.Rows
open L2 hiding St
/-- scalars and tuples, n deep at most -/
def plain : Nat → D → Bool
  | _, .non => true
  | _, .bl _ => true
  | _, .int _ => true
  | _, .str x => PyData.strOk x
  | n + 1, .tup xs => xs.all (plain n)
  | _, _ => false
def toPy : Nat → D → PyData
  | _, .non => .none
  | _, .bl b => .bool b
  | _, .int i => .int i
  | _, .str x => .str x
  | n + 1, .tup xs => .tuple (xs.map (toPy n))
  | _, _ => .none
theorem pyD_plain (h : Hs) : ∀ (n k : Nat) (d : D), n ≤ k → plain n d = true → pyD h k d = some (toPy n d) := by
  intro n
  induction n with
  | zero =>
    intro k d hk hp
    cases d with
    | tup xs => cases hp
    | loc l => cases hp
    | gl a => cases hp
    | ty a => cases hp
    | _ => unfold pyD; rfl
  | succ n ih =>
    intro k d hk hp
    cases d with
    | tup xs =>
      obtain ⟨k, rfl⟩ : ∃ j, k = j + 1 := ⟨k - 1, by omega⟩
      have : pyDs h k xs = some (xs.map (toPy n)) := by
        have hp' : xs.all (plain n) = true := hp
        clear hp
        induction xs with
        | nil => unfold pyDs; rfl
        | cons x xs ihx =>
          rw [List.all_cons, Bool.and_eq_true] at hp'
          unfold pyDs
          rw [ih k x (by omega) hp'.1, ihx hp'.2]
          rfl
      unfold pyD
      rw [this]
      rfl
    | loc l => cases hp
    | gl a => cases hp
    | ty a => cases hp
    | _ => unfold pyD; rfl
theorem pyDs_plain (h : Hs) (n k : Nat) (xs : List D) (hk : n ≤ k) (hp : xs.all (plain n) = true) : pyDs h k xs = some (xs.map (toPy n)) := by
  induction xs with
  | nil => unfold pyDs; rfl
  | cons x xs ihx =>
    rw [List.all_cons, Bool.and_eq_true] at hp
    unfold pyDs
    rw [pyD_plain h n k x hk hp.1, ihx hp.2]
    rfl
theorem lay_plain : ∀ (n : Nat) (d : D), plain n d = true → (toPy n d).canLay0 = true ∧ (toPy n d).depth ≤ n := by
  intro n
  induction n with
  | zero =>
    intro d hp
    cases d with
    | tup xs => cases hp
    | loc l => cases hp
    | gl a => cases hp
    | ty a => cases hp
    | str x => exact ⟨by simp only [toPy, PyData.canLay0]; exact hp, by simp [toPy, PyData.depth]⟩
    | _ => exact ⟨by simp [toPy, PyData.canLay0], by simp [toPy, PyData.depth]⟩
  | succ n ih =>
    intro d hp
    cases d with
    | tup xs =>
      have hp' : xs.all (plain n) = true := hp
      clear hp
      have : PyData.canLayAll0 (xs.map (toPy n)) = true ∧ PyData.depthAll (xs.map (toPy n)) ≤ n := by
        induction xs with
        | nil => exact ⟨by simp [PyData.canLayAll0], by simp [PyData.depthAll]⟩
        | cons x xs ihx =>
          rw [List.all_cons, Bool.and_eq_true] at hp'
          obtain ⟨a1, a2⟩ := ih x hp'.1
          obtain ⟨b1, b2⟩ := ihx hp'.2
          refine ⟨?_, ?_⟩
          · rw [List.map_cons, PyData.canLayAll0, a1, b1]; rfl
          · rw [List.map_cons, PyData.depthAll]; omega
      refine ⟨?_, ?_⟩
      · rw [toPy, PyData.canLay0]; exact this.1
      · rw [toPy, PyData.depth]; omega
    | loc l => cases hp
    | gl a => cases hp
    | ty a => cases hp
    | str x => exact ⟨by simp only [toPy, PyData.canLay0]; exact hp, by simp [toPy, PyData.depth]⟩
    | _ => exact ⟨by simp [toPy, PyData.canLay0], by simp [toPy, PyData.depth]⟩
theorem shaped_plain {n : Nat} {d : D} (h : plain n d = true) (hn : n ≤ 64) : SeqAt.shaped (toPy n d) = true := by
  obtain ⟨a, b⟩ := lay_plain n d h
  unfold SeqAt.shaped
  rw [a, decide_eq_true (by omega)]
  rfl
theorem eqS_tup (xs ys : List D) : eqS (.tup xs) (.tup ys) = none := rfl
theorem eqD_tups {h : Hs} {n : Nat} {xs ys : List D} (hn : n ≤ 20) (h1 : plain n (.tup xs) = true) (h2 : plain n (.tup ys) = true) : eqD h (.tup xs) (.tup ys) = some (PyData.eqv (toPy n (.tup xs)) (toPy n (.tup ys))) := by
  unfold eqD
  rw [eqS_tup]
  show (match pyD h 20 (.tup xs), pyD h 20 (.tup ys) with | some p, some q => if _ then _ else none | _, _ => none) = _
  rw [pyD_plain h n 20 _ hn h1, pyD_plain h n 20 _ hn h2]
  show (if _ then _ else none) = _
  rw [if_pos ⟨shaped_plain h1 (by omega), shaped_plain h2 (by omega)⟩]
theorem eqv_nilT (ps : List PyData) : PyData.eqv (.tuple ps) (.tuple []) = ps.isEmpty := by
  cases ps <;> simp [PyData.eqv, PyData.eqvAll]
theorem eqv_nilL (ps : List PyData) : PyData.eqv (.list ps) (.list []) = ps.isEmpty := by
  cases ps <;> simp [PyData.eqv, PyData.eqvAll]
/-- xs != () -/
theorem ne_nilT {h : Hs} {n : Nat} {xs : List D} (hn : n ≤ 19) (hp : xs.all (plain n) = true) : neO (.tup xs) (.tup []) h = some (.bl (!xs.isEmpty), h) := by
  unfold neO
  rw [eqD_tups (n := n + 1) (by omega) hp rfl]
  simp only [toPy, List.map_nil, eqv_nilT, Option.map_some]
  cases xs <;> rfl
/-- xs == [], xs != [] of lists of plain things -/
theorem eq_nilL {h : Hs} {n a b : Nat} {xs : List D} (ha : itemsAt h a = some xs) (hb : itemsAt h b = some []) (hn : n ≤ 19) (hp : xs.all (plain n) = true) : eqD h (.loc a) (.loc b) = some xs.isEmpty := by
  have e1 : pyD h 20 (.loc a) = some (.list (xs.map (toPy n))) := by
    unfold pyD
    rw [ha]
    show Option.map _ (pyDs h 19 xs) = _
    rw [pyDs_plain h n 19 xs hn hp]; rfl
  have e2 : pyD h 20 (.loc b) = some (.list []) := by
    unfold pyD
    rw [hb]
    show Option.map _ (pyDs h 19 []) = _
    unfold pyDs; rfl
  unfold eqD
  show (match pyD h 20 (.loc a), pyD h 20 (.loc b) with | some p, some q => if _ then _ else none | _, _ => none) = _
  rw [e1, e2]
  show (if _ then _ else none) = _
  rw [if_pos, eqv_nilL]
  · cases xs <;> rfl
  · obtain ⟨c1, c2⟩ := lay_plain (n + 1) (.tup xs) hp
    rw [toPy, PyData.canLay0] at c1
    rw [toPy, PyData.depth] at c2
    refine ⟨?_, by decide⟩
    unfold SeqAt.shaped
    rw [PyData.canLay0, c1, decide_eq_true (by rw [PyData.depth]; omega)]
    rfl
theorem ne_nilL {h : Hs} {n a b : Nat} {xs : List D} (ha : itemsAt h a = some xs) (hb : itemsAt h b = some []) (hn : n ≤ 19) (hp : xs.all (plain n) = true) : neO (.loc a) (.loc b) h = some (.bl (!xs.isEmpty), h) := by
  unfold neO
  rw [eq_nilL ha hb hn hp]
  rfl
theorem eqo_nilL {h : Hs} {n a b : Nat} {xs : List D} (ha : itemsAt h a = some xs) (hb : itemsAt h b = some []) (hn : n ≤ 19) (hp : xs.all (plain n) = true) : eqO (.loc a) (.loc b) h = some (.bl xs.isEmpty, h) := by
  unfold eqO
  rw [eq_nilL ha hb hn hp]
  rfl
/-- three texts at once -/
theorem eq_sss {h : Hs} {a b c d e f : Str} (ha : PyData.strOk a = true) (hb : PyData.strOk b = true) (hc : PyData.strOk c = true) (hd : PyData.strOk d = true) (he : PyData.strOk e = true) (hf : PyData.strOk f = true) :
    eqO (.tup [.str a, .str b, .str c]) (.tup [.str d, .str e, .str f]) h = some (.bl (decide (a = d ∧ b = e ∧ c = f)), h) := by
  unfold eqO
  rw [eqD_tups (n := 1) (by omega) (by simp [plain, ha, hb, hc]) (by simp [plain, hd, he, hf])]
  simp only [toPy, List.map_cons, List.map_nil, PyData.eqv, PyData.eqvAll, Option.map_some]
  congr 3
  rw [Bool.eq_iff_iff]
  simp
/-! ### x in a list | tuple of scalars -/
theorem in_strs {h : Hs} {a : Str} {y : D} {xs : List Str} (hy : seqAt h y = some (xs.map D.str)) (hne : ∀ b, y ≠ .str b) : inO (.str a) y h = some (.bl (decide (a ∈ xs)), h) := by
  have key : inD h (.str a) y = some (decide (a ∈ xs)) := by
    unfold inD
    split
    · exact absurd rfl (hne _)
    · rw [hy]
      show (if _ then _ else _) = _
      rw [if_pos ⟨rfl, by simp [flatD]⟩]
      congr 1
      rw [Bool.eq_iff_iff]
      simp [eqF]
  unfold inO
  rw [key]
  rfl
theorem nin_strs {h : Hs} {a : Str} {y : D} {xs : List Str} (hy : seqAt h y = some (xs.map D.str)) (hne : ∀ b, y ≠ .str b) : notInO (.str a) y h = some (.bl (!decide (a ∈ xs)), h) := by
  have := in_strs (a := a) hy hne
  unfold inO at this
  unfold notInO
  cases q : inD h (.str a) y with
  | none => rw [q] at this; cases this
  | some b => rw [q] at this; simp at this; simp [this]
/-! ### comprehensions over told lists -/
theorem wLc_pureM {α : Type} {dec : α → D} {gd : Gd} {g : GM} {mt : BM} {me : EM} {ρ0 : Rho} {as : List α} {h : Hs} {Q : Hs → Prop} (t : α → Bool) (f : α → D) (hs : as.length < sizeLine) (hgd : ∀ h', Fm [] h h' → gOk gd h')
    (step : ∀ (x : α) (h1 : Hs), x ∈ as → Fm [] h h1 → wG g (dec x) ρ0 h1 (fun ρ1 h2 => Fm [] h1 h2 ∧ wB mt ρ1 h2 (fun b h3 => b = t x ∧ Fm [] h2 h3 ∧ (b = true → wE me ρ1 h3 (fun y h4 => y = f x ∧ Fm [] h3 h4)))))
    (fin : ∀ h', Fm [] h h' → Ls h' h.length ((as.filter t).map f) → Q h') : wLc gd g mt me ρ0 h.length (as.map dec) (h ++ [.lst []]) Q := by
  refine wLc_inv (fun i acc h1 => Fm [] h h1 ∧ acc = ((as.take i).filter t).map f) (app_new h _) (by simpa using hs) ⟨(Fm.refl _ _).app _, by simp⟩ (fun i acc h1 hi _ => hgd _ hi.1) (fun i x acc h1 hx ⟨hi, ha⟩ he hl => ?_) (fun acc h1 ⟨hi, ha⟩ he => ?_)
  · rw [List.getElem?_map] at hx
    cases ea : as[i]? with
    | none => rw [ea] at hx; cases hx
    | some a =>
    rw [ea] at hx
    cases hx
    refine (step a h1 (List.mem_of_getElem? ea) hi).imp fun ρ1 h2 ⟨F2, w⟩ => w.imp fun b h3 ⟨hb, F3, w⟩ => ?_
    have ht : as.take (i + 1) = as.take i ++ [a] := by rw [List.take_add_one, ea]; rfl
    cases b
    · rw [if_neg (by decide)]
      refine ⟨F3.get0 (F2.get0 he), (hi.trans F2).trans F3, ?_⟩
      rw [ht, List.filter_append, List.map_append, ← ha]
      simp [← hb]
    · rw [if_pos rfl]
      refine (w rfl).imp fun y h4 ⟨ey, F4⟩ => ⟨F4.get0 (F3.get0 (F2.get0 he)), ((((hi.trans F2).trans F3).trans F4).set _ (.inr (Nat.le_refl _))), ?_⟩
      rw [ht, List.filter_append, List.map_append, ← ha, ey]
      simp [← hb]
  · rw [List.length_map, List.take_length] at ha
    subst ha
    exact fin h1 hi he
theorem wLc_mapM {α : Type} {dec : α → D} {gd : Gd} {g : GM} {me : EM} {ρ0 : Rho} {as : List α} {h : Hs} {Q : Hs → Prop} (f : α → D) (hs : as.length < sizeLine) (hgd : ∀ h', Fm [] h h' → gOk gd h')
    (step : ∀ (x : α) (h1 : Hs), x ∈ as → Fm [] h h1 → wG g (dec x) ρ0 h1 (fun ρ1 h2 => Fm [] h1 h2 ∧ wE me ρ1 h2 (fun y h4 => y = f x ∧ Fm [] h2 h4)))
    (fin : ∀ h', Fm [] h h' → Ls h' h.length (as.map f) → Q h') : wLc gd g bYes me ρ0 h.length (as.map dec) (h ++ [.lst []]) Q :=
  wLc_pureM (fun _ => true) f hs hgd (fun x h1 hx F => (step x h1 hx F).imp fun ρ1 h2 ⟨a, b⟩ => ⟨a, by rw [wB_Yes]; exact ⟨rfl, Fm.refl _ _, fun _ => b⟩⟩) fun h' F L => fin h' F (by rw [List.filter_eq_self.mpr (by simp)] at L; exact L)
@[simp] theorem ext_t (n : Nat) (ys : List D) (h : Hs) : extendM (.loc n) [.tup ys] h = match lstAt h n with
    | some xs => if xs.length + ys.length ≤ sizeLine then some (.non, h.set n (.lst (xs ++ ys))) else none
    | none => none := by
  unfold lstAt extendM
  dsimp only
  cases q : h[n]? with
  | none => rfl
  | some o => cases o <;> rfl
@[simp] theorem ext_l (n m : Nat) (h : Hs) : extendM (.loc n) [.loc m] h = match lstAt h n, lstAt h m with
    | some xs, some ys => if xs.length + ys.length ≤ sizeLine then some (.non, h.set n (.lst (xs ++ ys))) else none
    | _, _ => none := by
  unfold lstAt extendM
  dsimp only
  cases q : h[n]? with
  | none => rfl
  | some o => cases q2 : h[m]? with
    | none => cases o <;> rfl
    | some o2 => cases o <;> cases o2 <;> rfl
@[simp] theorem add_ll (n m : Nat) (h : Hs) : addD (.loc n) (.loc m) h = match lstAt h n, lstAt h m with
    | some xs, some ys => if xs.length + ys.length ≤ sizeLine then some (.loc h.length, h ++ [.lst (xs ++ ys)]) else none
    | _, _ => none := by
  unfold lstAt addD
  dsimp only
  cases q : h[n]? with
  | none => rfl
  | some o => cases q2 : h[m]? with
    | none => cases o <;> rfl
    | some o2 => cases o <;> cases o2 <;> rfl
end MP

/-! text LW_k25 -/
set_option Elab.async false
set_option linter.all false
set_option maxRecDepth 100000
set_option maxHeartbeats 0
namespace MP
open PySem PySem.Spec PyProof.Rows
open L2 hiding St
def c_MOST_MOMENTS : D := (.int 600)
def c_WORDS : D := (.tup [(.str "struck"), (.str "came"), (.str "queued"), (.str "changed"), (.str "took"), (.str "finished"), (.str "spoiled"), (.str "done"), (.str "late")])
noncomputable def S_law_taken : SM :=
  (sSeq (sIf (bBool (mOp2 gtO (mOp2 ixO (mVar 0) (mC (.int 3))) (mC (.int 0))))
    (sSeq (sSet (mOp2 modD (mCallN intN (aCons (mOp2 ixO (mVar 0) (mC (.int 3))) aNil)) (mVar 1)) (gVar 3))
    (sSeq (sSet (mOp2 fdivD (mOp2 ixO (mVar 0) (mC (.int 3))) (mVar 1)) (gSubM (mVar 0) (mC (.int 3))))
    (sSeq (sRet (mVar 3))
    sNext)))
    sNext)
  (sSeq (sSet (mOp2 addD (mOp2 ixO (mVar 0) (mC (.int 1))) (mC (.int 1))) (gSubM (mVar 0) (mC (.int 1))))
  (sSeq (sIf (bBool (mOp2 gtO (mOp2 ixO (mVar 0) (mC (.int 1))) (mCallN lenN (aCons (mOp2 ixO (mVar 0) (mC (.int 0))) aNil))))
    (sSeq (sSet (mOp2 modD (mCallN intN (aCons (mOp2 addD (mOp2 mulD (mOp2 ixO (mVar 0) (mC (.int 2))) (mC (.int 48271))) (mC (.int 11))) aNil)) (mC (.int 2147483647))) (gSubM (mVar 0) (mC (.int 2))))
    (sSeq (sRet (mOp2 modD (mCallN intN (aCons (mOp2 fdivD (mOp2 ixO (mVar 0) (mC (.int 2))) (mC (.int 7))) aNil)) (mVar 1)))
    sNext))
    sNext)
  (sSeq (sSet (mOp2 ixO (mOp2 ixO (mVar 0) (mC (.int 0))) (mOp2 subD (mOp2 ixO (mVar 0) (mC (.int 1))) (mC (.int 1)))) (gVar 2))
  (sSeq (sSet (mOp2 modD (mCallN intN (aCons (mOp2 addD (mOp2 addD (mOp2 mulD (mOp2 ixO (mVar 0) (mC (.int 2))) (mC (.int 48271))) (mVar 2)) (mC (.int 11))) aNil)) (mC (.int 2147483647))) (gSubM (mVar 0) (mC (.int 2))))
  (sSeq (sIf (bBool (mOp2 geO (mVar 2) (mOp2 powD (mC (.int 10)) (mC (.int 18)))))
    (sSeq (sSet (mOp2 fdivD (mVar 2) (mVar 1)) (gSubM (mVar 0) (mC (.int 3))))
    (sSeq (sRet (mOp2 modD (mCallN intN (aCons (mVar 2) aNil)) (mVar 1)))
    sNext))
    sNext)
  (sSeq (sRet (mOp2 modD (mCallN intN (aCons (mOp2 addD (mOp2 mulD (mOp2 modD (mCallN intN (aCons (mVar 2) aNil)) (mC (.int 1000003))) (mC (.int 31))) (mOp2 fdivD (mOp2 ixO (mVar 0) (mC (.int 2))) (mC (.int 11)))) aNil)) (mVar 1)))
  sNext)))))))
noncomputable def F_law_taken : ON := runF S_law_taken 4
noncomputable def S_law_names : SM :=
  (sSeq (sSet (mC (.str "abcdefghijklmnopqrstuvwxyz")) (gVar 2))
  (sSeq (sPar [7, 8] (aCons (mCallF 2 F_law_taken (aCons (mVar 0) (aCons (mC (.int 26)) aNil))) (aCons (mLst aNil) aNil)))
  (sSeq (sSet (mOp2 mulD (mOp2 ixO (mVar 2) (mCallF 2 F_law_taken (aCons (mVar 0) (aCons (mC (.int 26)) aNil)))) (mCallF 2 F_law_taken (aCons (mVar 0) (aCons (mC (.int 4)) aNil)))) (gVar 3))
  (sSeq (sSet (mOp2 mulD (mOp2 ixO (mVar 2) (mCallF 2 F_law_taken (aCons (mVar 0) (aCons (mC (.int 26)) aNil)))) (mCallF 2 F_law_taken (aCons (mVar 0) (aCons (mC (.int 4)) aNil)))) (gVar 4))
  (sSeq (sSet (mCallF 2 F_law_taken (aCons (mVar 0) (aCons (mC (.int 2)) aNil))) (gVar 5))
  (sSeq (sFor (iRange1 (mVar 1)) (gVar 6)
    (sSeq (sSet (mOp2 ixO (mVar 2) (mOp2 modD (mCallN intN (aCons (mOp2 addD (mVar 7) (mOp2 mulD (mC (.int 7)) (mVar 6))) aNil)) (mC (.int 26)))) (gVar 9))
    (sSeq (sExpr (mMeth isLst appendM (mVar 8) (aCons (mIf (bBool (mOp2 eqO (mVar 5) (mC (.int 0)))) (mOp2 addD (mOp2 addD (mVar 3) (mVar 9)) (mVar 4)) (mOp2 addD (mVar 9) (mOp2 mulD (mOp2 ixO (mVar 2) (mCallF 2 F_law_taken (aCons (mVar 0) (aCons (mC (.int 26)) aNil)))) (mCallF 2 F_law_taken (aCons (mVar 0) (aCons (mC (.int 8)) aNil)))))) aNil)))
    sNext)))
  (sSeq (sRet (mVar 8))
  sNext)))))))
noncomputable def F_law_names : ON := runF S_law_names 10
noncomputable def S_law_pick : SM :=
  (sSeq (sRet (mOp2 ixO (mVar 1) (mCallF 2 F_law_taken (aCons (mVar 0) (aCons (mCallN lenN (aCons (mVar 1) aNil)) aNil)))))
  sNext)
noncomputable def F_law_pick : ON := runF S_law_pick 2
noncomputable def S_law_station : SM :=
  (sSeq (sSet (mCallF 2 F_law_pick (aCons (mVar 0) (aCons (mLst (aCons (mC (.int 0)) (aCons (mC (.int 0)) (aCons (mC (.int 0)) (aCons (mC (.int 4)) (aCons (mC (.int 5)) (aCons (mC (.int 6)) aNil))))))) aNil))) (gVar 2))
  (sSeq (sRet (mTup (aCons (mVar 1) (aCons (mCallF 2 F_law_pick (aCons (mVar 0) (aCons (mLst (aCons (mC (.int 1)) (aCons (mC (.int 1)) (aCons (mC (.int 2)) (aCons (mC (.int 3)) (aCons (mC (.int 4)) aNil)))))) aNil))) (aCons (mVar 2) (aCons (mIf (bBool (mOp2 gtO (mVar 2) (mC (.int 0)))) (mCallF 2 F_law_pick (aCons (mVar 0) (aCons (mLst (aCons (mC (.int 0)) (aCons (mC (.int 1)) (aCons (mC (.int 2)) (aCons (mC (.int 3)) aNil))))) aNil))) (mC (.int 0))) (aCons (mOp2 addD (mC (.int 1)) (mCallF 2 F_law_taken (aCons (mVar 0) (aCons (mC (.int 4)) aNil)))) aNil)))))))
  sNext))
noncomputable def F_law_station : ON := runF S_law_station 3
noncomputable def S_law_steps : SM :=
  (sSeq (sSet (mLst aNil) (gVar 3))
  (sSeq (sFor (iRange1 (mOp2 addD (mC (.int 1)) (mCallF 2 F_law_taken (aCons (mVar 0) (aCons (mVar 2) aNil))))) (gVar 4)
    (sSeq (sSet (mIf (bBool (mOp2 gtO (mCallF 2 F_law_taken (aCons (mVar 0) (aCons (mC (.int 3)) aNil))) (mC (.int 0)))) (mCallF 2 F_law_taken (aCons (mVar 0) (aCons (mOp2 addD (mVar 4) (mC (.int 1))) aNil))) (mC .non)) (gVar 5))
    (sSeq (sExpr (mMeth isLst appendM (mVar 3) (aCons (mTup (aCons (mCallF 2 F_law_pick (aCons (mVar 0) (aCons (mVar 1) aNil))) (aCons (mOp2 addD (mC (.int 1)) (mCallF 2 F_law_taken (aCons (mVar 0) (aCons (mCallF 2 F_law_pick (aCons (mVar 0) (aCons (mLst (aCons (mC (.int 2)) (aCons (mC (.int 2)) (aCons (mC (.int 4)) aNil)))) aNil))) aNil)))) (aCons (mVar 5) aNil)))) aNil)))
    sNext)))
  (sSeq (sRet (mCallN tupleN (aCons (mVar 3) aNil)))
  sNext)))
noncomputable def F_law_steps : ON := runF S_law_steps 6
noncomputable def S_law_setups : SM :=
  (sSeq (sSet (mLst aNil) (gVar 3))
  (sSeq (sFor (iSeq (mCallN sortedN (aCons (mVar 1) aNil))) (gVar 4)
    (sSeq (sFor (iSeq (mCallN sortedN (aCons (mVar 2) aNil))) (gVar 5)
      (sSeq (sFor (iSeq (mCallN sortedN (aCons (mVar 2) aNil))) (gVar 6)
        (sSeq (sIf (bAnd (bBool (mOp2 neO (mVar 5) (mVar 6))) (bBool (mOp2 eqO (mCallF 2 F_law_taken (aCons (mVar 0) (aCons (mC (.int 4)) aNil))) (mC (.int 0)))))
          (sSeq (sExpr (mMeth isLst appendM (mVar 3) (aCons (mTup (aCons (mVar 4) (aCons (mVar 5) (aCons (mVar 6) (aCons (mOp2 addD (mC (.int 1)) (mCallF 2 F_law_taken (aCons (mVar 0) (aCons (mC (.int 3)) aNil)))) aNil))))) aNil)))
          sNext)
          sNext)
        sNext))
      sNext))
    sNext))
  (sSeq (sRet (mCallN tupleN (aCons (mSl (mVar 3) pNo (pInt (mC (.int 20)))) aNil)))
  sNext)))
noncomputable def F_law_setups : ON := runF S_law_setups 7
noncomputable def S_law_small : SM :=
  (sSeq (sSet (mCallF 2 F_law_names (aCons (mVar 0) (aCons (mCallF 2 F_law_pick (aCons (mVar 0) (aCons (mLst (aCons (mC (.int 1)) (aCons (mC (.int 2)) (aCons (mC (.int 2)) (aCons (mC (.int 2)) (aCons (mC (.int 3)) aNil)))))) aNil))) aNil))) (gVar 1))
  (sSeq (sSet (mCallF 2 F_law_names (aCons (mVar 0) (aCons (mCallF 2 F_law_pick (aCons (mVar 0) (aCons (mLst (aCons (mC (.int 1)) (aCons (mC (.int 1)) (aCons (mC (.int 2)) (aCons (mC (.int 2)) aNil))))) aNil))) aNil))) (gVar 2))
  (sSeq (sSet (mCallF 2 F_law_pick (aCons (mVar 0) (aCons (mLst (aCons (mC (.int 2)) (aCons (mC (.int 3)) (aCons (mC (.int 3)) (aCons (mC (.int 4)) (aCons (mC (.int 5)) aNil)))))) aNil))) (gVar 3))
  (sSeq (sSet (mCallN tupleN (aCons (mLc (iSeq (mLc (iSeq (mVar 1)) (gVar 6) bYes (mCallF 2 F_law_station (aCons (mVar 0) (aCons (mVar 6) aNil))) [6])) (gVar 11) bYes (mTup (aCons (mOp2 ixO (mVar 11) (mC (.int 0))) (aCons (mOp2 ixO (mVar 11) (mC (.int 1))) (aCons (mOp2 ixO (mVar 11) (mC (.int 2))) (aCons (mCallN min2N (aCons (mOp2 ixO (mVar 11) (mC (.int 3))) (aCons (mC (.int 2)) aNil))) (aCons (mCallN min2N (aCons (mOp2 ixO (mVar 11) (mC (.int 4))) (aCons (mC (.int 2)) aNil))) aNil)))))) [11]) aNil)) (gVar 4))
  (sSeq (sSet (mLst aNil) (gVar 5))
  (sSeq (sFor (iSeq (mVar 2)) (gVar 6)
    (sSeq (sExpr (mMeth isLst appendM (mVar 5) (aCons (mTup (aCons (mVar 6) (aCons (mCallN tupleN (aCons (mLc (iSeq (mCallF 3 F_law_steps (aCons (mVar 0) (aCons (mVar 1) (aCons (mC (.int 3)) aNil))))) (gVar 11) bYes (mTup (aCons (mOp2 ixO (mVar 11) (mC (.int 0))) (aCons (mCallN min2N (aCons (mOp2 ixO (mVar 11) (mC (.int 1))) (aCons (mC (.int 2)) aNil))) (aCons (mOp2 ixO (mVar 11) (mC (.int 2))) aNil)))) [11]) aNil)) aNil))) aNil)))
    sNext))
  (sSeq (sSet (mCallF 2 F_law_pick (aCons (mVar 0) (aCons (mLst (aCons (mC (.int 1)) (aCons (mC (.int 1)) (aCons (mC (.int 1)) (aCons (mC (.int 2)) (aCons (mC (.int 2)) (aCons (mC (.int 0)) (aCons (mC (.int 3)) (aCons (mC (.int 5)) aNil))))))))) aNil))) (gVar 7))
  (sSeq (sSet (mIf (bBool (mOp2 ltO (mVar 7) (mC (.int 3)))) (mCallF 2 F_law_pick (aCons (mVar 0) (aCons (mLst (aCons (mC (.int 3)) (aCons (mC (.int 5)) (aCons (mC (.int 7)) (aCons (mC (.int 9)) (aCons (mC (.int 12)) aNil)))))) aNil))) (mC (.int 3))) (gVar 8))
  (sSeq (sSet (mCallN tupleN (aCons (mLc (iRange1 (mVar 7)) (gVar 12) bYes (mTup (aCons (mCallF 2 F_law_taken (aCons (mVar 0) (aCons (mVar 3) aNil))) (aCons (mCallF 2 F_law_pick (aCons (mVar 0) (aCons (mVar 2) aNil))) (aCons (mOp2 addD (mC (.int 1)) (mCallF 2 F_law_taken (aCons (mVar 0) (aCons (mVar 8) aNil)))) aNil)))) [12]) aNil)) (gVar 9))
  (sSeq (sSet (mTup (aCons (mCallF 2 F_law_pick (aCons (mVar 0) (aCons (mLst (aCons (mC (.int 0)) (aCons (mC (.int 1)) (aCons (mC (.int 1)) (aCons (mC (.int 1)) aNil))))) aNil))) (aCons (mCallF 2 F_law_pick (aCons (mVar 0) (aCons (mLst (aCons (mC (.int 3)) (aCons (mC (.int 4)) (aCons (mC (.int 6)) (aCons (mC (.int 8)) aNil))))) aNil))) aNil))) (gVar 10))
  (sSeq (sRet (mTup (aCons (mVar 4) (aCons (mCallN tupleN (aCons (mVar 5) aNil)) (aCons (mVar 3) (aCons (mVar 9) (aCons (mSl (mCallF 3 F_law_setups (aCons (mVar 0) (aCons (mVar 1) (aCons (mVar 2) aNil)))) pNo (pInt (mC (.int 2)))) (aCons (mVar 10) (aCons (mCallF 2 F_law_pick (aCons (mVar 0) (aCons (mLst (aCons (mC (.int 0)) (aCons (mC (.int 0)) (aCons (mC (.int 1)) aNil)))) aNil))) aNil)))))))))
  sNext)))))))))))
noncomputable def F_law_small : ON := runF S_law_small 13
noncomputable def S_law_start : SM :=
  (sSeq (sRet (mTup (aCons (mC (.int 0)) (aCons (mTup aNil) (aCons (mCallN tupleN (aCons (mLc (iSeq (mOp2 ixO (mVar 0) (mC (.int 0)))) (gVar 1) bYes (mTup (aCons (mC (.int 0)) (aCons (mC (.int 0)) (aCons (mC (.int 0)) (aCons (mC (.str "")) (aCons (mC .non) aNil)))))) [1]) aNil)) (aCons (mCallN tupleN (aCons (mLc (iSeq (mOp2 ixO (mVar 0) (mC (.int 0)))) (gVar 1) bYes (mTup aNil) [1]) aNil)) (aCons (mTup aNil) aNil)))))))
  sNext)
noncomputable def F_law_start : ON := runF S_law_start 2
noncomputable def S_law_spot : SM :=
  (sSeq (sRet (mOp2 ixO (mLc (iRange1 (mCallN lenN (aCons (mOp2 ixO (mVar 0) (mC (.int 0))) aNil))) (gVar 2) (bBool (mOp2 eqO (mOp2 ixO (mOp2 ixO (mOp2 ixO (mVar 0) (mC (.int 0))) (mVar 2)) (mC (.int 0))) (mVar 1))) (mVar 2) [2]) (mC (.int 0))))
  sNext)
noncomputable def F_law_spot : ON := runF S_law_spot 3
noncomputable def S_law_route : SM :=
  (sSeq (sRet (mOp2 ixO (mLc (iSeq (mOp2 ixO (mVar 0) (mC (.int 1)))) (gVar 2) (bBool (mOp2 eqO (mOp2 ixO (mVar 2) (mC (.int 0))) (mVar 1))) (mOp2 ixO (mVar 2) (mC (.int 1))) [2]) (mC (.int 0))))
  sNext)
noncomputable def F_law_route : ON := runF S_law_route 3
noncomputable def S_law_way : SM :=
  (sSeq (sRet (mCallF 2 F_law_route (aCons (mVar 0) (aCons (mOp2 ixO (mOp2 ixO (mOp2 ixO (mVar 0) (mC (.int 3))) (mOp2 ixO (mVar 1) (mC (.int 0)))) (mC (.int 1))) aNil))))
  sNext)
noncomputable def F_law_way : ON := runF S_law_way 2
noncomputable def S_law_goal : SM :=
  (sSeq (sRet (mCallF 2 F_law_spot (aCons (mVar 0) (aCons (mOp2 ixO (mOp2 ixO (mCallF 2 F_law_way (aCons (mVar 0) (aCons (mVar 1) aNil))) (mOp2 ixO (mVar 1) (mC (.int 1)))) (mC (.int 0))) aNil))))
  sNext)
noncomputable def F_law_goal : ON := runF S_law_goal 2
noncomputable def S_law_setup : SM :=
  (sSeq (sSet (mLc (iSeq (mOp2 ixO (mVar 0) (mC (.int 4)))) (gVar 5) (bBool (mOp2 eqO (mSl (mVar 5) pNo (pInt (mC (.int 3)))) (mTup (aCons (mVar 1) (aCons (mVar 2) (aCons (mVar 3) aNil)))))) (mOp2 ixO (mVar 5) (mC (.int 3))) [5]) (gVar 4))
  (sSeq (sRet (mIf (bBool (mOp2 neO (mVar 4) (mLst aNil))) (mOp2 ixO (mVar 4) (mC (.int 0))) (mC (.int 0))))
  sNext))
noncomputable def F_law_setup : ON := runF S_law_setup 6
noncomputable def S_law_begin : SM :=
  (sSeq (sSet (mOp2 ixO (mOp2 ixO (mVar 0) (mC (.int 0))) (mVar 1)) (gTupM 5 (gsCons (gVar 6) (gsCons (gVar 7) (gsCons (gVar 8) (gsCons (gVar 9) (gsCons (gVar 10) gsNil)))))))
  (sSeq (sPar [11, 12] (aCons (mOp2 ixO (mOp2 ixO (mOp2 ixO (mVar 0) (mC (.int 3))) (mOp2 ixO (mVar 3) (mC (.int 0)))) (mC (.int 1))) (aCons (mOp2 ixO (mOp2 ixO (mCallF 2 F_law_way (aCons (mVar 0) (aCons (mVar 3) aNil))) (mOp2 ixO (mVar 3) (mC (.int 1)))) (mC (.int 1))) aNil)))
  (sSeq (sSet (mIf (bBool (mOp2 neO (mOp2 ixO (mVar 2) (mC (.int 3))) (mC (.str "")))) (mCallF 4 F_law_setup (aCons (mVar 0) (aCons (mVar 6) (aCons (mOp2 ixO (mVar 2) (mC (.int 3))) (aCons (mVar 11) aNil))))) (mC (.int 0))) (gVar 5))
  (sSeq (sIf (bAnd (bBool (mOp2 gtO (mVar 8) (mC (.int 0)))) (bBool (mOp2 gtO (mOp2 addD (mOp2 ixO (mVar 2) (mC (.int 2))) (mVar 12)) (mVar 8))))
    (sSeq (sSet (mOp2 addD (mVar 5) (mVar 9)) (gVar 5))
    (sSeq (sSet (mC (.int 0)) (gSubM (mVar 2) (mC (.int 2))))
    (sSeq (sExpr (mMeth isLst appendM (mVar 4) (aCons (mTup (aCons (mC (.str "changed")) (aCons (mVar 3) (aCons (mVar 1) (aCons (mVar 9) aNil))))) aNil)))
    sNext)))
    sNext)
  (sSeq (sSet (mVar 5) (gSubM (mVar 2) (mC (.int 1))))
  (sSeq (sSet (mVar 11) (gSubM (mVar 2) (mC (.int 3))))
  (sSeq (sSet (mTup (aCons (mVar 3) (aCons (mVar 12) aNil))) (gSubM (mVar 2) (mC (.int 4))))
  (sSeq (sExpr (mMeth isLst appendM (mVar 4) (aCons (mTup (aCons (mC (.str "took")) (aCons (mVar 3) (aCons (mVar 1) (aCons (mVar 5) aNil))))) aNil)))
  sNext))))))))
noncomputable def F_law_begin : ON := runF S_law_begin 13
noncomputable def S_law_work : SM :=
  (sSeq (sIf (bBool (mOp2 gtO (mOp2 ixO (mVar 2) (mC (.int 0))) (mC (.int 0))))
    (sSeq (sSet (mOp2 subD (mOp2 ixO (mVar 2) (mC (.int 0))) (mC (.int 1))) (gSubM (mVar 2) (mC (.int 0))))
    sNext)
    (sSeq (sIf (bBool (mOp2 gtO (mOp2 ixO (mVar 2) (mC (.int 1))) (mC (.int 0))))
      (sSeq (sSet (mOp2 subD (mOp2 ixO (mVar 2) (mC (.int 1))) (mC (.int 1))) (gSubM (mVar 2) (mC (.int 1))))
      sNext)
      (sSeq (sIf (bAnd (bBool (mOp2 isNotO (mOp2 ixO (mVar 2) (mC (.int 4))) (mC .non))) (bBool (mOp2 gtO (mOp2 ixO (mOp2 ixO (mVar 2) (mC (.int 4))) (mC (.int 1))) (mC (.int 0)))))
        (sSeq (sSet (mOp2 ixO (mVar 2) (mC (.int 4))) (gTupM 2 (gsCons (gVar 5) (gsCons (gVar 6) gsNil))))
        (sSeq (sSet (mOp2 addD (mOp2 ixO (mVar 2) (mC (.int 2))) (mCallN intN (aCons (mOp2 gtO (mOp2 ixO (mOp2 ixO (mOp2 ixO (mVar 0) (mC (.int 0))) (mVar 1)) (mC (.int 2))) (mC (.int 0))) aNil))) (gSubM (mVar 2) (mC (.int 2))))
        (sSeq (sSet (mTup (aCons (mVar 5) (aCons (mOp2 subD (mVar 6) (mC (.int 1))) aNil))) (gSubM (mVar 2) (mC (.int 4))))
        (sSeq (sIf (bBool (mOp2 eqO (mVar 6) (mC (.int 1))))
          (sSeq (sSet (mOp2 eqO (mVar 3) (mOp2 addD (mOp2 ixO (mOp2 ixO (mOp2 ixO (mVar 0) (mC (.int 0))) (mVar 1)) (mC (.int 0))) (mC (.str "!")))) (gVar 7))
          (sSeq (sExpr (mMeth isLst appendM (mVar 4) (aCons (mTup (aCons (mIf (bTru (mVar 7)) (mC (.str "spoiled")) (mC (.str "finished"))) (aCons (mVar 5) (aCons (mVar 1) (aCons (mOp2 ixO (mVar 5) (mC (.int 1))) aNil))))) aNil)))
          (sSeq (sSet (mIf (bTru (mVar 7)) (mOp2 ixO (mOp2 ixO (mCallF 2 F_law_way (aCons (mVar 0) (aCons (mVar 5) aNil))) (mOp2 ixO (mVar 5) (mC (.int 1)))) (mC (.int 2))) (mOp2 addD (mOp2 ixO (mVar 5) (mC (.int 1))) (mC (.int 1)))) (gVar 8))
          (sSeq (sSet (mTup (aCons (mOp2 addD (mTup (aCons (mOp2 ixO (mVar 5) (mC (.int 0))) (aCons (mVar 8) (aCons (mOp2 ixO (mVar 5) (mC (.int 2))) (aCons (mOp2 addD (mOp2 ixO (mVar 5) (mC (.int 3))) (mCallN intN (aCons (mVar 7) aNil))) aNil))))) (mSl (mVar 5) (pInt (mC (.int 4))) pNo)) (aCons (mC (.int 0)) aNil))) (gSubM (mVar 2) (mC (.int 4))))
          sNext))))
          sNext)
        sNext))))
        sNext)
      sNext))
    sNext))
  sNext)
noncomputable def F_law_work : ON := runF S_law_work 9
noncomputable def S_law_older : SM :=
  (sSeq (sRet (mOp2 addD (mOp2 addD (mSl (mVar 0) pNo (pInt (mC (.int 2)))) (mTup (aCons (mOp2 addD (mOp2 ixO (mVar 0) (mC (.int 2))) (mC (.int 1))) aNil))) (mSl (mVar 0) (pInt (mC (.int 3))) pNo)))
  sNext)
noncomputable def F_law_older : ON := runF S_law_older 1
noncomputable def S_law_closed : SM :=
  (sSeq (sSet (mLst aNil) (gVar 7))
  (sSeq (sFor (iSeq (mVar 3)) (gVar 8)
    (sSeq (sExpr (mMeth isLst appendM (mVar 7) (aCons (mTup (aCons (mOp2 ixO (mVar 8) (mC (.int 0))) (aCons (mOp2 ixO (mVar 8) (mC (.int 1))) (aCons (mOp2 ixO (mVar 8) (mC (.int 2))) (aCons (mOp2 ixO (mVar 8) (mC (.int 3))) (aCons (mIf (bBool (mOp2 isO (mOp2 ixO (mVar 8) (mC (.int 4))) (mC .non))) (mC .non) (mTup (aCons (mCallF 1 F_law_older (aCons (mOp2 ixO (mOp2 ixO (mVar 8) (mC (.int 4))) (mC (.int 0))) aNil)) (aCons (mOp2 ixO (mOp2 ixO (mVar 8) (mC (.int 4))) (mC (.int 1))) aNil)))) aNil)))))) aNil)))
    sNext))
  (sSeq (sSet (mOp2 addD (mIf (bTru (mVar 6)) (mLst (aCons (mC (.int 1)) aNil)) (mLst aNil)) (mLc (iSeq (mVar 2)) (gVar 12) bYes (mOp2 addD (mVar 12) (mC (.int 1))) [12])) (gVar 9))
  (sSeq (sSet (mCallN tupleN (aCons (mLc (iSeq (mVar 4)) (gVar 13) bYes (mCallN tupleN (aCons (mLc (iSeq (mVar 13)) (gVar 14) bYes (mCallF 1 F_law_older (aCons (mVar 14) aNil)) [14]) aNil)) [13]) aNil)) (gVar 10))
  (sSeq (sSet (mCallN tupleN (aCons (mLc (iSeq (mVar 9)) (gVar 12) (bBool (mOp2 ltO (mVar 12) (mOp2 ixO (mOp2 ixO (mVar 0) (mC (.int 5))) (mC (.int 1))))) (mVar 12) [12]) aNil)) (gVar 11))
  (sSeq (sRet (mTup (aCons (mOp2 modD (mCallN intN (aCons (mOp2 addD (mVar 1) (mC (.int 1))) aNil)) (mOp2 ixO (mVar 0) (mC (.int 2)))) (aCons (mVar 11) (aCons (mCallN tupleN (aCons (mVar 7) aNil)) (aCons (mVar 10) (aCons (mCallN tupleN (aCons (mLc (iSeq (mVar 5)) (gVar 14) bYes (mCallF 1 F_law_older (aCons (mVar 14) aNil)) [14]) aNil)) aNil)))))))
  sNext))))))
noncomputable def F_law_closed : ON := runF S_law_closed 15
noncomputable def S_law_moment : SM :=
  (sSeq (sSet (mVar 1) (gTupM 5 (gsCons (gVar 11) (gsCons (gVar 12) (gsCons (gVar 4) (gsCons (gVar 5) (gsCons (gVar 13) gsNil)))))))
  (sSeq (sSet (mLc (iSeq (mVar 4)) (gVar 17) bYes (mCallN listN (aCons (mVar 17) aNil)) [17]) (gVar 4))
  (sSeq (sSet (mLc (iSeq (mVar 5)) (gVar 18) bYes (mCallN listN (aCons (mVar 18) aNil)) [18]) (gVar 5))
  (sSeq (sPar [14, 15, 16] (aCons (mLst aNil) (aCons (mLc (iSeq (mOp2 ixO (mVar 0) (mC (.int 0)))) (gVar 19) bYes (mOp2 ixO (mVar 19) (mC (.int 0))) [19]) (aCons (mCallN listN (aCons (mVar 13) aNil)) aNil))))
  (sSeq (sIf (bBool (mOp2 inO (mVar 2) (mVar 15)))
    (sSeq (sSet (mOp2 ixO (mOp2 ixO (mOp2 ixO (mVar 0) (mC (.int 0))) (mMeth isLst indexM (mVar 15) (aCons (mVar 2) aNil))) (mC (.int 4))) (gSubM (mOp2 ixO (mVar 4) (mMeth isLst indexM (mVar 15) (aCons (mVar 2) aNil))) (mC (.int 0))))
    (sSeq (sExpr (mMeth isLst appendM (mVar 14) (aCons (mTup (aCons (mC (.str "struck")) (aCons (mC .non) (aCons (mMeth isLst indexM (mVar 15) (aCons (mVar 2) aNil)) (aCons (mOp2 ixO (mOp2 ixO (mOp2 ixO (mVar 0) (mC (.int 0))) (mMeth isLst indexM (mVar 15) (aCons (mVar 2) aNil))) (mC (.int 4))) aNil))))) aNil)))
    sNext))
    sNext)
  (sSeq (sSet (mLc (iRange1 (mCallN lenN (aCons (mOp2 ixO (mVar 0) (mC (.int 3))) aNil))) (gVar 7) (bBool (mOp2 eqO (mOp2 ixO (mOp2 ixO (mOp2 ixO (mVar 0) (mC (.int 3))) (mVar 7)) (mC (.int 0))) (mVar 11))) (mVar 7) [7]) (gVar 6))
  (sSeq (sFor (iRange1 (mCallN lenN (aCons (mVar 6) aNil))) (gVar 7)
    (sSeq (sExpr (mMeth isLst appendM (mVar 16) (aCons (mOp2 addD (mTup (aCons (mOp2 ixO (mVar 6) (mVar 7)) (aCons (mC (.int 0)) (aCons (mC (.int 0)) (aCons (mC (.int 0)) aNil))))) (mIf (bBool (mOp2 neO (mVar 3) (mTup aNil))) (mOp2 ixO (mVar 3) (mVar 7)) (mTup aNil))) aNil)))
    (sSeq (sExpr (mMeth isLst appendM (mVar 14) (aCons (mTup (aCons (mC (.str "came")) (aCons (mOp2 ixO (mVar 16) (mOp1 negO (mC (.int 1)))) (aCons (mC .non) (aCons (mOp2 ixO (mVar 6) (mVar 7)) aNil))))) aNil)))
    sNext)))
  (sSeq (sSet (mLst aNil) (gVar 8))
  (sSeq (sFor (iSeq (mVar 16)) (gVar 9)
    (sSeq (sSet (mCallF 2 F_law_goal (aCons (mVar 0) (aCons (mVar 9) aNil))) (gVar 10))
    (sSeq (sIf (bBool (mOp2 ltO (mCallN lenN (aCons (mOp2 ixO (mVar 5) (mVar 10)) aNil)) (mOp2 ixO (mOp2 ixO (mOp2 ixO (mVar 0) (mC (.int 0))) (mVar 10)) (mC (.int 1)))))
      (sSeq (sExpr (mMeth isLst appendM (mOp2 ixO (mVar 5) (mVar 10)) (aCons (mVar 9) aNil)))
      (sSeq (sExpr (mMeth isLst appendM (mVar 14) (aCons (mTup (aCons (mC (.str "queued")) (aCons (mVar 9) (aCons (mVar 10) (aCons (mCallN lenN (aCons (mOp2 ixO (mVar 5) (mVar 10)) aNil)) aNil))))) aNil)))
      sNext))
      (sSeq (sExpr (mMeth isLst appendM (mVar 8) (aCons (mVar 9) aNil)))
      sNext))
    sNext)))
  (sSeq (sFor (iRange1 (mCallN lenN (aCons (mVar 15) aNil))) (gVar 10)
    (sSeq (sIf (bAnd (bBool (mOp2 eqO (mOp2 ixO (mOp2 ixO (mVar 4) (mVar 10)) (mC (.int 0))) (mC (.int 0)))) (bAnd (bBool (mOp2 isO (mOp2 ixO (mOp2 ixO (mVar 4) (mVar 10)) (mC (.int 4))) (mC .non))) (bBool (mOp2 neO (mOp2 ixO (mVar 5) (mVar 10)) (mLst aNil)))))
      (sSeq (sExpr (mCallF 5 F_law_begin (aCons (mVar 0) (aCons (mVar 10) (aCons (mOp2 ixO (mVar 4) (mVar 10)) (aCons (mMeth isLst popM (mOp2 ixO (mVar 5) (mVar 10)) (aCons (mC (.int 0)) aNil)) (aCons (mVar 14) aNil)))))))
      sNext)
      sNext)
    sNext))
  (sSeq (sFor (iRange1 (mCallN lenN (aCons (mVar 15) aNil))) (gVar 10)
    (sSeq (sExpr (mCallF 5 F_law_work (aCons (mVar 0) (aCons (mVar 10) (aCons (mOp2 ixO (mVar 4) (mVar 10)) (aCons (mVar 2) (aCons (mVar 14) aNil)))))))
    sNext))
  (sSeq (sFor (iRange3 (mOp2 subD (mCallN lenN (aCons (mVar 15) aNil)) (mC (.int 1))) (mOp1 negO (mC (.int 1))) (mOp1 negO (mC (.int 1)))) (gVar 10)
    (sSeq (sIf (bAnd (bBool (mOp2 isNotO (mOp2 ixO (mOp2 ixO (mVar 4) (mVar 10)) (mC (.int 4))) (mC .non))) (bBool (mOp2 eqO (mOp2 ixO (mOp2 ixO (mOp2 ixO (mVar 4) (mVar 10)) (mC (.int 4))) (mC (.int 1))) (mC (.int 0)))))
      (sSeq (sSet (mOp2 ixO (mOp2 ixO (mOp2 ixO (mVar 4) (mVar 10)) (mC (.int 4))) (mC (.int 0))) (gVar 9))
      (sSeq (sIf (bBool (mOp2 eqO (mOp2 ixO (mVar 9) (mC (.int 1))) (mCallN lenN (aCons (mCallF 2 F_law_way (aCons (mVar 0) (aCons (mVar 9) aNil))) aNil))))
        (sSeq (sExpr (mMeth isLst appendM (mVar 14) (aCons (mTup (aCons (mC (.str "done")) (aCons (mVar 9) (aCons (mVar 10) (aCons (mOp2 addD (mOp2 ixO (mVar 9) (mC (.int 2))) (mC (.int 1))) aNil))))) aNil)))
        (sSeq (sSet (mC .non) (gSubM (mOp2 ixO (mVar 4) (mVar 10)) (mC (.int 4))))
        sNext))
        (sSeq (sIf (bOr (bBool (mOp2 eqO (mCallF 2 F_law_goal (aCons (mVar 0) (aCons (mVar 9) aNil))) (mVar 10))) (bBool (mOp2 ltO (mCallN lenN (aCons (mOp2 ixO (mVar 5) (mCallF 2 F_law_goal (aCons (mVar 0) (aCons (mVar 9) aNil)))) aNil)) (mOp2 ixO (mOp2 ixO (mOp2 ixO (mVar 0) (mC (.int 0))) (mCallF 2 F_law_goal (aCons (mVar 0) (aCons (mVar 9) aNil)))) (mC (.int 1))))))
          (sSeq (sExpr (mMeth isLst appendM (mOp2 ixO (mVar 5) (mCallF 2 F_law_goal (aCons (mVar 0) (aCons (mVar 9) aNil)))) (aCons (mVar 9) aNil)))
          (sSeq (sExpr (mMeth isLst appendM (mVar 14) (aCons (mTup (aCons (mC (.str "queued")) (aCons (mVar 9) (aCons (mCallF 2 F_law_goal (aCons (mVar 0) (aCons (mVar 9) aNil))) (aCons (mCallN lenN (aCons (mOp2 ixO (mVar 5) (mCallF 2 F_law_goal (aCons (mVar 0) (aCons (mVar 9) aNil)))) aNil)) aNil))))) aNil)))
          (sSeq (sSet (mC .non) (gSubM (mOp2 ixO (mVar 4) (mVar 10)) (mC (.int 4))))
          sNext)))
          sNext)
        sNext))
      sNext))
      sNext)
    sNext))
  (sSeq (sRet (mTup (aCons (mCallF 7 F_law_closed (aCons (mVar 0) (aCons (mVar 11) (aCons (mVar 12) (aCons (mVar 4) (aCons (mVar 5) (aCons (mVar 8) (aCons (mOp2 neO (mVar 2) (mC (.str "-"))) aNil)))))))) (aCons (mVar 14) aNil))))
  sNext)))))))))))))
noncomputable def F_law_moment : ON := runF S_law_moment 20
noncomputable def S_law_open : SM :=
  (sSeq (sSet (mLst (aCons (mC (.str "-")) aNil)) (gVar 2))
  (sSeq (sIf (bBool (mOp2 geO (mCallN lenN (aCons (mOp2 ixO (mVar 1) (mC (.int 1))) aNil)) (mOp2 ixO (mOp2 ixO (mVar 0) (mC (.int 5))) (mC (.int 0)))))
    (sSeq (sRet (mVar 2))
    sNext)
    sNext)
  (sSeq (sSet (mOp2 ixO (mCallF 4 F_law_moment (aCons (mVar 0) (aCons (mVar 1) (aCons (mC (.str "-")) (aCons (mTup aNil) aNil))))) (mC (.int 1))) (gVar 3))
  (sSeq (sFor (iRange1 (mCallN lenN (aCons (mOp2 ixO (mVar 0) (mC (.int 0))) aNil))) (gVar 4)
    (sSeq (sIf (bBool (mOp2 eqO (mOp2 ixO (mOp2 ixO (mOp2 ixO (mVar 1) (mC (.int 2))) (mVar 4)) (mC (.int 0))) (mC (.int 0))))
      (sSeq (sExpr (mMeth isLst appendM (mVar 2) (aCons (mOp2 ixO (mOp2 ixO (mOp2 ixO (mVar 0) (mC (.int 0))) (mVar 4)) (mC (.int 0))) aNil)))
      sNext)
      sNext)
    (sSeq (sFor (iSeq (mVar 3)) (gVar 5)
      (sSeq (sIf (bAnd (bBool (mOp2 eqO (mOp2 ixO (mVar 5) (mC (.int 0))) (mC (.str "finished")))) (bAnd (bBool (mOp2 eqO (mOp2 ixO (mVar 5) (mC (.int 2))) (mVar 4))) (bAnd (bBool (mOp2 ltO (mOp2 ixO (mOp2 ixO (mVar 5) (mC (.int 1))) (mC (.int 3))) (mOp2 ixO (mVar 0) (mC (.int 6))))) (bBool (mOp2 isNotO (mOp2 ixO (mOp2 ixO (mCallF 2 F_law_way (aCons (mVar 0) (aCons (mOp2 ixO (mVar 5) (mC (.int 1))) aNil))) (mOp2 ixO (mVar 5) (mC (.int 3)))) (mC (.int 2))) (mC .non))))))
        (sSeq (sExpr (mMeth isLst appendM (mVar 2) (aCons (mOp2 addD (mOp2 ixO (mOp2 ixO (mOp2 ixO (mVar 0) (mC (.int 0))) (mVar 4)) (mC (.int 0))) (mC (.str "!"))) aNil)))
        sNext)
        sNext)
      sNext))
    sNext)))
  (sSeq (sRet (mVar 2))
  sNext)))))
noncomputable def F_law_open : ON := runF S_law_open 6
noncomputable def S_law_walk : SM :=
  (sSeq (sPar [5, 6] (aCons (mLst (aCons (mCallF 1 F_law_start (aCons (mVar 1) aNil)) aNil)) (aCons (mLst aNil) aNil)))
  (sSeq (sSet (mCallF 2 F_law_pick (aCons (mVar 0) (aCons (mLst (aCons (mC (.int 1)) (aCons (mC (.int 2)) (aCons (mC (.int 2)) (aCons (mC (.int 6)) aNil))))) aNil))) (gVar 3))
  (sSeq (sFor (iRange1 (mVar 2)) (gVar 4)
    (sSeq (sSet (mCallF 2 F_law_open (aCons (mVar 1) (aCons (mOp2 ixO (mVar 5) (mOp1 negO (mC (.int 1)))) aNil))) (gVar 7))
    (sSeq (sSet (mIf (bBool (mOp2 eqO (mCallF 2 F_law_taken (aCons (mVar 0) (aCons (mVar 3) aNil))) (mC (.int 0)))) (mCallF 2 F_law_pick (aCons (mVar 0) (aCons (mVar 7) aNil))) (mC (.str "-"))) (gVar 8))
    (sSeq (sExpr (mMeth isLst appendM (mVar 6) (aCons (mVar 8) aNil)))
    (sSeq (sExpr (mMeth isLst appendM (mVar 5) (aCons (mOp2 ixO (mCallF 4 F_law_moment (aCons (mVar 1) (aCons (mOp2 ixO (mVar 5) (mOp1 negO (mC (.int 1)))) (aCons (mVar 8) (aCons (mTup aNil) aNil))))) (mC (.int 0))) aNil)))
    sNext)))))
  (sSeq (sRet (mTup (aCons (mCallN tupleN (aCons (mVar 6) aNil)) (aCons (mVar 5) aNil))))
  sNext))))
noncomputable def F_law_walk : ON := runF S_law_walk 9
noncomputable def S_law_inside : SM :=
  (sSeq (sSet (mCallN listN (aCons (mOp2 ixO (mVar 0) (mC (.int 4))) aNil)) (gVar 1))
  (sSeq (sFor (iSeq (mOp2 ixO (mVar 0) (mC (.int 3)))) (gVar 2)
    (sSeq (sExpr (mMeth isLst extendM (mVar 1) (aCons (mVar 2) aNil)))
    sNext))
  (sSeq (sRet (mOp2 addD (mVar 1) (mLc (iSeq (mOp2 ixO (mVar 0) (mC (.int 2)))) (gVar 3) (bBool (mOp2 isNotO (mOp2 ixO (mVar 3) (mC (.int 4))) (mC .non))) (mOp2 ixO (mOp2 ixO (mVar 3) (mC (.int 4))) (mC (.int 0))) [3])))
  sNext)))
noncomputable def F_law_inside : ON := runF S_law_inside 4
noncomputable def S_law_log : SM :=
  (sSeq (sSet (mTup (aCons (mCallF 1 F_law_start (aCons (mVar 0) aNil)) (aCons (mLst aNil) (aCons (mC (.int 1)) aNil)))) (gTupM 3 (gsCons (gVar 3) (gsCons (gVar 4) (gsCons (gVar 5) gsNil)))))
  (sSeq (sFor (iRange1 (mCallN lenN (aCons (mVar 1) aNil))) (gVar 2)
    (sSeq (sSet (mCallN lenN (aCons (mLc (iSeq (mOp2 ixO (mVar 0) (mC (.int 3)))) (gVar 13) (bBool (mOp2 eqO (mOp2 ixO (mVar 13) (mC (.int 0))) (mOp2 ixO (mVar 3) (mC (.int 0))))) (mVar 13) [13]) aNil)) (gVar 6))
    (sSeq (sSet (mCallF 4 F_law_moment (aCons (mVar 0) (aCons (mVar 3) (aCons (mOp2 ixO (mVar 1) (mVar 2)) (aCons (mCallN tupleN (aCons (mLc (iRange1 (mVar 6)) (gVar 14) bYes (mTup (aCons (mOp2 addD (mVar 5) (mVar 14)) aNil)) [14]) aNil)) aNil))))) (gTupM 2 (gsCons (gVar 3) (gsCons (gVar 8) gsNil))))
    (sSeq (sSet (mOp2 addD (mVar 5) (mVar 6)) (gVar 5))
    (sSeq (sFor (iSeq (mVar 8)) (gTupM 4 (gsCons (gVar 9) (gsCons (gVar 10) (gsCons (gVar 11) (gsCons (gVar 12) gsNil)))))
      (sSeq (sExpr (mMeth isLst appendM (mVar 4) (aCons (mTup (aCons (mVar 2) (aCons (mVar 9) (aCons (mIf (bBool (mOp2 isO (mVar 10) (mC .non))) (mC (.int 0)) (mOp2 ixO (mVar 10) (mC (.int 4)))) (aCons (mIf (bBool (mOp2 isO (mVar 11) (mC .non))) (mC (.str "")) (mOp2 ixO (mOp2 ixO (mOp2 ixO (mVar 0) (mC (.int 0))) (mVar 11)) (mC (.int 0)))) (aCons (mVar 12) aNil)))))) aNil)))
      sNext))
    (sSeq (sSet (mCallN sortedN (aCons (mLc (iSeq (mCallF 1 F_law_inside (aCons (mVar 3) aNil))) (gVar 10) (bBool (mOp2 eqO (mOp2 ixO (mVar 10) (mC (.int 2))) (mOp2 ixO (mOp2 ixO (mOp2 ixO (mVar 0) (mC (.int 3))) (mOp2 ixO (mVar 10) (mC (.int 0)))) (mC (.int 2))))) (mTup (aCons (mOp2 ixO (mVar 10) (mC (.int 4))) (aCons (mOp2 ixO (mVar 10) (mC (.int 2))) aNil))) [10]) aNil)) (gVar 7))
    (sSeq (sExpr (mMeth isLst extendM (mVar 4) (aCons (mLc (iSeq (mVar 7)) (gVar 13) bYes (mTup (aCons (mVar 2) (aCons (mC (.str "late")) (aCons (mOp2 ixO (mVar 13) (mC (.int 0))) (aCons (mC (.str "")) (aCons (mOp2 ixO (mVar 13) (mC (.int 1))) aNil)))))) [13]) aNil)))
    sNext)))))))
  (sSeq (sRet (mVar 4))
  sNext)))
noncomputable def F_law_log : ON := runF S_law_log 15
noncomputable def S_law_lines : SM :=
  (sSeq (sSet (mCallF 1 F_law_small (aCons (mVar 0) aNil)) (gVar 1))
  (sSeq (sSet (mLc (iSeq (mOp2 ixO (mVar 1) (mC (.int 1)))) (gVar 5) bYes (mOp2 ixO (mVar 5) (mC (.int 0))) [5]) (gVar 2))
  (sSeq (sSet (mCallN tupleN (aCons (mLc (iRange1 (mOp2 addD (mC (.int 1)) (mCallF 2 F_law_taken (aCons (mVar 0) (aCons (mC (.int 3)) aNil))))) (gVar 6) bYes (mTup (aCons (mCallF 2 F_law_taken (aCons (mVar 0) (aCons (mOp2 ixO (mVar 1) (mC (.int 2))) aNil))) (aCons (mCallF 2 F_law_pick (aCons (mVar 0) (aCons (mVar 2) aNil))) (aCons (mOp2 addD (mC (.int 1)) (mCallF 2 F_law_taken (aCons (mVar 0) (aCons (mC (.int 30)) aNil)))) aNil)))) [6]) aNil)) (gVar 3))
  (sSeq (sSet (mTup (aCons (mOp2 ixO (mVar 1) (mC (.int 0))) (aCons (mOp2 ixO (mVar 1) (mC (.int 1))) (aCons (mOp2 ixO (mVar 1) (mC (.int 2))) (aCons (mVar 3) (aCons (mOp2 ixO (mVar 1) (mC (.int 4))) (aCons (mTup (aCons (mCallF 2 F_law_pick (aCons (mVar 0) (aCons (mLst (aCons (mC (.int 1)) (aCons (mC (.int 2)) (aCons (mC (.int 3)) aNil)))) aNil))) (aCons (mOp2 ixO (mOp2 ixO (mVar 1) (mC (.int 5))) (mC (.int 1))) aNil))) (aCons (mCallF 2 F_law_taken (aCons (mVar 0) (aCons (mC (.int 3)) aNil))) aNil)))))))) (gVar 1))
  (sSeq (sSet (mOp2 ixO (mCallF 3 F_law_walk (aCons (mVar 0) (aCons (mVar 1) (aCons (mCallF 2 F_law_pick (aCons (mVar 0) (aCons (mLst (aCons (mC (.int 0)) (aCons (mC (.int 4)) (aCons (mC (.int 8)) (aCons (mC (.int 12)) (aCons (mC (.int 16)) aNil)))))) aNil))) aNil)))) (mC (.int 0))) (gVar 4))
  (sSeq (sRet (mTup (aCons (mVar 1) (aCons (mVar 4) (aCons (mCallF 2 F_law_log (aCons (mVar 1) (aCons (mVar 4) aNil))) aNil)))))
  sNext))))))
noncomputable def F_law_lines : ON := runF S_law_lines 7
noncomputable def S_law_tickets : SM :=
  (sSeq (sRet (mCallN sortedN (aCons (mLc (iSeq (mVar 0)) (gVar 1) (bBool (mOp2 eqO (mOp2 ixO (mVar 1) (mC (.int 1))) (mC (.str "came")))) (mOp2 ixO (mVar 1) (mC (.int 2))) [1]) aNil)))
  sNext)
noncomputable def F_law_tickets : ON := runF S_law_tickets 2
noncomputable def S_is_whole : SM :=
  (sSeq (sRet (mAndV (mCallN isinstN (aCons (mVar 0) (aCons (mC (.ty "int")) aNil))) (mNotV (mCallN isinstN (aCons (mVar 0) (aCons (mC (.ty "bool")) aNil))))))
  sNext)
noncomputable def F_is_whole : ON := runF S_is_whole 1
noncomputable def S_is_within : SM :=
  (sSeq (sRet (mAndV (mCallF 1 F_is_whole (aCons (mVar 0) aNil)) (mChain leO leO (mVar 1) (mVar 0) (mVar 2))))
  sNext)
noncomputable def F_is_within : ON := runF S_is_within 3
noncomputable def S_is_row : SM :=
  (sSeq (sRet (mAndV (mCallN isinstN (aCons (mVar 0) (aCons (mC (.ty "tuple")) aNil))) (mOp2 eqO (mCallN lenN (aCons (mVar 0) aNil)) (mVar 1))))
  sNext)
noncomputable def F_is_row : ON := runF S_is_row 2
noncomputable def S_is_log_row : SM :=
  (sSeq (sIf (bOr (bNot (bTru (mCallF 2 F_is_row (aCons (mVar 0) (aCons (mC (.int 5)) aNil))))) (bNot (bTru (mCallF 3 F_is_within (aCons (mOp2 ixO (mVar 0) (mC (.int 0))) (aCons (mC (.int 0)) (aCons (mOp2 subD (mC c_MOST_MOMENTS) (mC (.int 1))) aNil)))))))
    (sSeq (sRet (mC (.bl false)))
    sNext)
    sNext)
  (sSeq (sIf (bOr (bNot (bTru (mCallN isinstN (aCons (mOp2 ixO (mVar 0) (mC (.int 1))) (aCons (mC (.ty "str")) aNil))))) (bOr (bBool (mOp2 notInO (mOp2 ixO (mVar 0) (mC (.int 1))) (mC c_WORDS))) (bOr (bNot (bTru (mCallF 1 F_is_whole (aCons (mOp2 ixO (mVar 0) (mC (.int 2))) aNil)))) (bBool (mOp2 ltO (mOp2 ixO (mVar 0) (mC (.int 2))) (mC (.int 0)))))))
    (sSeq (sRet (mC (.bl false)))
    sNext)
    sNext)
  (sSeq (sRet (mAndV (mCallN isinstN (aCons (mOp2 ixO (mVar 0) (mC (.int 3))) (aCons (mC (.ty "str")) aNil))) (mCallF 1 F_is_whole (aCons (mOp2 ixO (mVar 0) (mC (.int 4))) aNil))))
  sNext)))
noncomputable def F_is_log_row : ON := runF S_is_log_row 1
noncomputable def S_require_log : SM :=
  (sSeq (sIf (bNot (bTru (mCallN isinstN (aCons (mVar 0) (aCons (mC (.ty "tuple")) aNil)))))
    (sSeq sNo
    sNext)
    sNext)
  (sSeq (sFor (iEnum (mVar 0)) (gTupM 2 (gsCons (gVar 1) (gsCons (gVar 2) gsNil)))
    (sSeq (sIf (bNot (bTru (mCallF 1 F_is_log_row (aCons (mVar 2) aNil))))
      (sSeq sNo
      sNext)
      sNext)
    sNext))
  sNext))
noncomputable def F_require_log : ON := runF S_require_log 3
noncomputable def S_tickets_in : SM :=
  (sSeq (sExpr (mCallF 1 F_require_log (aCons (mVar 0) aNil)))
  (sSeq (sRet (mCallN tupleN (aCons (mCallN sortedN (aCons (mLc (iSeq (mVar 0)) (gVar 1) (bBool (mOp2 eqO (mOp2 ixO (mVar 1) (mC (.int 1))) (mC (.str "came")))) (mOp2 ixO (mVar 1) (mC (.int 2))) [1]) aNil)) aNil)))
  sNext))
noncomputable def F_tickets_in : ON := runF S_tickets_in 2
noncomputable def S_story : SM :=
  (sSeq (sSet (mCallF 1 F_tickets_in (aCons (mVar 0) aNil)) (gVar 2))
  (sSeq (sIf (bOr (bNot (bTru (mCallF 1 F_is_whole (aCons (mVar 1) aNil)))) (bBool (mOp2 notInO (mVar 1) (mVar 2))))
    (sSeq sNo
    sNext)
    sNext)
  (sSeq (sRet (mCallN tupleN (aCons (mLc (iSeq (mVar 0)) (gVar 3) (bBool (mOp2 eqO (mOp2 ixO (mVar 3) (mC (.int 2))) (mVar 1))) (mVar 3) [3]) aNil)))
  sNext)))
noncomputable def F_story : ON := runF S_story 4
noncomputable def S_done_at : SM :=
  (sSeq (sSet (mLc (iSeq (mCallF 2 F_story (aCons (mVar 0) (aCons (mVar 1) aNil)))) (gVar 3) (bBool (mOp2 eqO (mOp2 ixO (mVar 3) (mC (.int 1))) (mC (.str "done")))) (mOp2 ixO (mVar 3) (mC (.int 0))) [3]) (gVar 2))
  (sSeq (sRet (mIf (bBool (mOp2 neO (mVar 2) (mLst aNil))) (mOp2 ixO (mVar 2) (mC (.int 0))) (mC .non)))
  sNext))
noncomputable def F_done_at : ON := runF S_done_at 4
noncomputable def S_visit_with : SM :=
  (sSeq (sSet (mVar 0) (gTupM 6 (gsCons (gVar 3) (gsCons (gVar 4) (gsCons (gVar 5) (gsCons (gVar 6) (gsCons (gVar 7) (gsCons (gVar 8) gsNil))))))))
  (sSeq (sIf (bBool (mOp2 eqO (mVar 1) (mC (.str "took"))))
    (sSeq (sRet (mTup (aCons (mVar 3) (aCons (mVar 4) (aCons (mVar 2) (aCons (mVar 6) (aCons (mVar 7) (aCons (mVar 8) aNil))))))))
    sNext)
    sNext)
  (sSeq (sIf (bBool (mOp2 eqO (mVar 1) (mC (.str "finished"))))
    (sSeq (sRet (mTup (aCons (mVar 3) (aCons (mVar 4) (aCons (mVar 5) (aCons (mVar 2) (aCons (mVar 7) (aCons (mVar 8) aNil))))))))
    sNext)
    sNext)
  (sSeq (sIf (bBool (mOp2 eqO (mVar 1) (mC (.str "spoiled"))))
    (sSeq (sRet (mTup (aCons (mVar 3) (aCons (mVar 4) (aCons (mVar 5) (aCons (mVar 2) (aCons (mVar 7) (aCons (mC (.bl true)) aNil))))))))
    sNext)
    sNext)
  (sSeq (sRet (mTup (aCons (mVar 3) (aCons (mVar 4) (aCons (mVar 5) (aCons (mVar 6) (aCons (mVar 2) (aCons (mVar 8) aNil))))))))
  sNext)))))
noncomputable def F_visit_with : ON := runF S_visit_with 9
noncomputable def S_visits : SM :=
  (sSeq (sSet (mLst aNil) (gVar 2))
  (sSeq (sFor (iSeq (mCallF 2 F_story (aCons (mVar 0) (aCons (mVar 1) aNil)))) (gTupM 5 (gsCons (gVar 3) (gsCons (gVar 4) (gsCons (gVar 5) (gsCons (gVar 6) (gsCons (gVar 7) gsNil))))))
    (sSeq (sIf (bBool (mOp2 inO (mVar 4) (mTup (aCons (mC (.str "took")) (aCons (mC (.str "finished")) (aCons (mC (.str "spoiled")) (aCons (mC (.str "done")) aNil)))))))
      (sSeq (sSet (mCallF 3 F_visit_with (aCons (mOp2 ixO (mVar 2) (mOp1 negO (mC (.int 1)))) (aCons (mVar 4) (aCons (mVar 3) aNil)))) (gSubM (mVar 2) (mOp1 negO (mC (.int 1)))))
      sNext)
      (sSeq (sIf (bBool (mOp2 eqO (mVar 4) (mC (.str "queued"))))
        (sSeq (sIf (bBool (mOp2 neO (mVar 2) (mLst aNil)))
          (sSeq (sSet (mCallF 3 F_visit_with (aCons (mOp2 ixO (mVar 2) (mOp1 negO (mC (.int 1)))) (aCons (mC (.str "gone")) (aCons (mVar 3) aNil)))) (gSubM (mVar 2) (mOp1 negO (mC (.int 1)))))
          sNext)
          sNext)
        (sSeq (sExpr (mMeth isLst appendM (mVar 2) (aCons (mTup (aCons (mVar 6) (aCons (mVar 3) (aCons (mC .non) (aCons (mC .non) (aCons (mC .non) (aCons (mC (.bl false)) aNil))))))) aNil)))
        sNext))
        sNext)
      sNext))
    sNext))
  (sSeq (sRet (mCallN tupleN (aCons (mVar 2) aNil)))
  sNext)))
noncomputable def F_visits : ON := runF S_visits 8
noncomputable def S_came_at : SM :=
  (sSeq (sRet (mOp2 ixO (mOp2 ixO (mCallF 2 F_story (aCons (mVar 0) (aCons (mVar 1) aNil))) (mC (.int 0))) (mC (.int 0))))
  sNext)
noncomputable def F_came_at : ON := runF S_came_at 2
noncomputable def S_times_of : SM :=
  (sSeq (sIf (bBool (mOp2 isO (mCallF 2 F_done_at (aCons (mVar 0) (aCons (mVar 1) aNil))) (mC .non)))
    (sSeq (sRet (mC .non))
    sNext)
    sNext)
  (sSeq (sSet (mCallF 2 F_visits (aCons (mVar 0) (aCons (mVar 1) aNil))) (gVar 2))
  (sSeq (sSet (mOp2 subD (mOp2 ixO (mOp2 ixO (mVar 2) (mC (.int 0))) (mC (.int 1))) (mCallF 2 F_came_at (aCons (mVar 0) (aCons (mVar 1) aNil)))) (gVar 3))
  (sSeq (sSet (mTup (aCons (mC (.int 0)) (aCons (mC (.int 0)) (aCons (mC (.int 0)) aNil)))) (gTupM 3 (gsCons (gVar 4) (gsCons (gVar 5) (gsCons (gVar 6) gsNil)))))
  (sSeq (sFor (iEnum (mVar 2)) (gTupM 2 (gsCons (gVar 7) (gsCons (gTupM 6 (gsCons (gVar 8) (gsCons (gVar 9) (gsCons (gVar 10) (gsCons (gVar 11) (gsCons (gVar 12) (gsCons (gVar 13) gsNil))))))) gsNil)))
    (sSeq (sAug 4 (mOp2 subD (mOp2 subD (mVar 10) (mVar 9)) (mCallN intN (aCons (mOp2 gtO (mVar 7) (mC (.int 0))) aNil))) iaddO)
    (sSeq (sAug 5 (mOp2 addD (mOp2 subD (mVar 11) (mVar 10)) (mC (.int 1))) iaddO)
    (sSeq (sAug 6 (mOp2 subD (mVar 12) (mVar 11)) iaddO)
    sNext))))
  (sSeq (sRet (mTup (aCons (mVar 3) (aCons (mVar 4) (aCons (mVar 5) (aCons (mVar 6) aNil))))))
  sNext))))))
noncomputable def F_times_of : ON := runF S_times_of 14
noncomputable def S_law_story : SM :=
  (sSeq (sRet (mLc (iSeq (mVar 0)) (gVar 2) (bBool (mOp2 eqO (mOp2 ixO (mVar 2) (mC (.int 2))) (mVar 1))) (mVar 2) [2]))
  sNext)
noncomputable def F_law_story : ON := runF S_law_story 3
noncomputable def S_law_visits : SM :=
  (sSeq (sSet (mLst aNil) (gVar 2))
  (sSeq (sFor (iSeq (mCallF 2 F_law_story (aCons (mVar 0) (aCons (mVar 1) aNil)))) (gTupM 5 (gsCons (gVar 3) (gsCons (gVar 4) (gsCons (gVar 5) (gsCons (gVar 6) (gsCons (gVar 7) gsNil))))))
    (sSeq (sIf (bBool (mOp2 eqO (mVar 4) (mC (.str "queued"))))
      (sSeq (sIf (bBool (mOp2 neO (mVar 2) (mLst aNil)))
        (sSeq (sSet (mOp2 addD (mSl (mOp2 ixO (mVar 2) (mOp1 negO (mC (.int 1)))) pNo (pInt (mC (.int 4)))) (mTup (aCons (mVar 3) (aCons (mOp2 ixO (mOp2 ixO (mVar 2) (mOp1 negO (mC (.int 1)))) (mC (.int 5))) aNil)))) (gSubM (mVar 2) (mOp1 negO (mC (.int 1)))))
        sNext)
        sNext)
      (sSeq (sExpr (mMeth isLst appendM (mVar 2) (aCons (mTup (aCons (mVar 6) (aCons (mVar 3) (aCons (mC .non) (aCons (mC .non) (aCons (mC .non) (aCons (mC (.bl false)) aNil))))))) aNil)))
      sNext))
      sNext)
    (sSeq (sIf (bBool (mOp2 eqO (mVar 4) (mC (.str "took"))))
      (sSeq (sSet (mOp2 addD (mOp2 addD (mSl (mOp2 ixO (mVar 2) (mOp1 negO (mC (.int 1)))) pNo (pInt (mC (.int 2)))) (mTup (aCons (mVar 3) aNil))) (mSl (mOp2 ixO (mVar 2) (mOp1 negO (mC (.int 1)))) (pInt (mC (.int 3))) pNo)) (gSubM (mVar 2) (mOp1 negO (mC (.int 1)))))
      sNext)
      sNext)
    (sSeq (sIf (bBool (mOp2 inO (mVar 4) (mTup (aCons (mC (.str "finished")) (aCons (mC (.str "spoiled")) aNil)))))
      (sSeq (sSet (mOp2 addD (mSl (mOp2 ixO (mVar 2) (mOp1 negO (mC (.int 1)))) pNo (pInt (mC (.int 3)))) (mTup (aCons (mVar 3) (aCons (mC .non) (aCons (mOp2 eqO (mVar 4) (mC (.str "spoiled"))) aNil))))) (gSubM (mVar 2) (mOp1 negO (mC (.int 1)))))
      sNext)
      sNext)
    (sSeq (sIf (bBool (mOp2 eqO (mVar 4) (mC (.str "done"))))
      (sSeq (sSet (mOp2 addD (mSl (mOp2 ixO (mVar 2) (mOp1 negO (mC (.int 1)))) pNo (pInt (mC (.int 4)))) (mTup (aCons (mVar 3) (aCons (mOp2 ixO (mOp2 ixO (mVar 2) (mOp1 negO (mC (.int 1)))) (mC (.int 5))) aNil)))) (gSubM (mVar 2) (mOp1 negO (mC (.int 1)))))
      sNext)
      sNext)
    sNext)))))
  (sSeq (sRet (mVar 2))
  sNext)))
noncomputable def F_law_visits : ON := runF S_law_visits 8
noncomputable def S_law_counts : SM :=
  (sSeq (sSet (mTup (aCons (mCallF 1 F_law_start (aCons (mVar 0) aNil)) (aCons (mC (.int 1)) (aCons (mLst (aCons (mC (.int 0)) (aCons (mC (.int 0)) (aCons (mC (.int 0)) (aCons (mC (.int 0)) aNil))))) aNil)))) (gTupM 3 (gsCons (gVar 4) (gsCons (gVar 5) (gsCons (gVar 6) gsNil)))))
  (sSeq (sFor (iSeq (mVar 1)) (gVar 3)
    (sSeq (sSet (mCallN lenN (aCons (mLc (iSeq (mOp2 ixO (mVar 0) (mC (.int 3)))) (gVar 11) (bBool (mOp2 eqO (mOp2 ixO (mVar 11) (mC (.int 0))) (mOp2 ixO (mVar 4) (mC (.int 0))))) (mVar 11) [11]) aNil)) (gVar 7))
    (sSeq (sSet (mCallF 4 F_law_moment (aCons (mVar 0) (aCons (mVar 4) (aCons (mVar 3) (aCons (mCallN tupleN (aCons (mLc (iRange1 (mVar 7)) (gVar 13) bYes (mTup (aCons (mOp2 addD (mVar 5) (mVar 13)) aNil)) [13]) aNil)) aNil))))) (gTupM 2 (gsCons (gVar 4) (gsCons (gVar 10) gsNil))))
    (sSeq (sSet (mOp2 addD (mVar 5) (mVar 7)) (gVar 5))
    (sSeq (sIf (bBool (mOp2 neO (mLc (iSeq (mOp2 ixO (mVar 4) (mC (.int 4)))) (gVar 12) (bBool (mOp2 eqO (mOp2 ixO (mVar 12) (mC (.int 4))) (mVar 2))) (mVar 12) [12]) (mLst aNil)))
      (sSeq (sSet (mOp2 addD (mOp2 ixO (mVar 6) (mC (.int 0))) (mC (.int 1))) (gSubM (mVar 6) (mC (.int 0))))
      sNext)
      sNext)
    (sSeq (sFor (iSeq (mOp2 ixO (mVar 4) (mC (.int 3)))) (gVar 8)
      (sSeq (sSet (mOp2 addD (mOp2 ixO (mVar 6) (mC (.int 1))) (mCallN lenN (aCons (mLc (iSeq (mVar 8)) (gVar 12) (bBool (mOp2 eqO (mOp2 ixO (mVar 12) (mC (.int 4))) (mVar 2))) (mVar 12) [12]) aNil))) (gSubM (mVar 6) (mC (.int 1))))
      sNext))
    (sSeq (sFor (iSeq (mOp2 ixO (mVar 4) (mC (.int 2)))) (gVar 9)
      (sSeq (sIf (bAnd (bBool (mOp2 isNotO (mOp2 ixO (mVar 9) (mC (.int 4))) (mC .non))) (bBool (mOp2 eqO (mOp2 ixO (mOp2 ixO (mOp2 ixO (mVar 9) (mC (.int 4))) (mC (.int 0))) (mC (.int 4))) (mVar 2))))
        (sSeq (sSet (mOp2 addD (mOp2 ixO (mVar 6) (mIf (bBool (mOp2 gtO (mOp2 ixO (mOp2 ixO (mVar 9) (mC (.int 4))) (mC (.int 1))) (mC (.int 0)))) (mC (.int 2)) (mC (.int 3)))) (mC (.int 1))) (gSubM (mVar 6) (mIf (bBool (mOp2 gtO (mOp2 ixO (mOp2 ixO (mVar 9) (mC (.int 4))) (mC (.int 1))) (mC (.int 0)))) (mC (.int 2)) (mC (.int 3)))))
        sNext)
        sNext)
      sNext))
    sNext)))))))
  (sSeq (sRet (mVar 6))
  sNext)))
noncomputable def F_law_counts : ON := runF S_law_counts 14
noncomputable def S_law_alike (self : ON) : SM :=
  (sSeq (sIf (bTru (mCallN isinstN (aCons (mVar 1) (aCons (mTup (aCons (mC (.ty "tuple")) (aCons (mC (.ty "list")) aNil))) aNil))))
    (sSeq (sIf (bOr (bNot (bTru (mCallN isinstN (aCons (mVar 0) (aCons (mTup (aCons (mC (.ty "tuple")) (aCons (mC (.ty "list")) aNil))) aNil))))) (bBool (mOp2 neO (mCallN isinstN (aCons (mVar 0) (aCons (mC (.ty "list")) aNil))) (mCallN isinstN (aCons (mVar 1) (aCons (mC (.ty "list")) aNil))))))
      (sSeq (sRet (mC (.bl false)))
      sNext)
      sNext)
    (sSeq (sIf (bBool (mOp2 neO (mCallN lenN (aCons (mVar 0) aNil)) (mCallN lenN (aCons (mVar 1) aNil))))
      (sSeq (sRet (mC (.bl false)))
      sNext)
      sNext)
    (sSeq (sRet (mOp2 eqO (mLc (iRange1 (mCallN lenN (aCons (mVar 1) aNil))) (gVar 2) (bNot (bTru (mCallF 2 self (aCons (mOp2 ixO (mVar 0) (mVar 2)) (aCons (mOp2 ixO (mVar 1) (mVar 2)) aNil))))) (mVar 2) [2]) (mLst aNil)))
    sNext)))
    sNext)
  (sSeq (sIf (bOr (bBool (mOp2 isO (mVar 1) (mC .non))) (bTru (mCallN isinstN (aCons (mVar 1) (aCons (mC (.ty "str")) aNil)))))
    (sSeq (sRet (mAndV (mOp2 eqO (mVar 0) (mVar 1)) (mOp2 eqO (mCallN isinstN (aCons (mVar 0) (aCons (mC (.ty "str")) aNil))) (mCallN isinstN (aCons (mVar 1) (aCons (mC (.ty "str")) aNil))))))
    sNext)
    sNext)
  (sSeq (sRet (mAndV (mCallN isinstN (aCons (mVar 0) (aCons (mC (.ty "int")) aNil))) (mAndV (mOp2 eqO (mCallN isinstN (aCons (mVar 0) (aCons (mC (.ty "bool")) aNil))) (mCallN isinstN (aCons (mVar 1) (aCons (mC (.ty "bool")) aNil)))) (mOp2 eqO (mVar 0) (mVar 1)))))
  sNext)))
noncomputable def F_law_alike_at : Nat → ON
  | 0 => fun _ _ => none
  | n + 1 => runF (S_law_alike (F_law_alike_at n)) 3
noncomputable abbrev F_law_alike : ON := F_law_alike_at 12
noncomputable def S_law : SM :=
  (sSeq (sSet (mLst (aCons (mVar 0) (aCons (mC (.int 0)) (aCons (mC (.int 7251)) (aCons (mC (.int 0)) aNil))))) (gVar 1))
  (sSeq (sFor (iRange1 (mC (.int 3))) (gVar 2)
    (sSeq (sSet (mCallF 1 F_law_lines (aCons (mVar 1) aNil)) (gTupM 3 (gsCons (gVar 4) (gsCons (gVar 5) (gsCons (gVar 6) gsNil)))))
    (sSeq (sFor (iSeq (mCallF 1 F_law_tickets (aCons (mVar 6) aNil))) (gVar 3)
      (sSeq (sSet (mLc (iSeq (mVar 6)) (gVar 13) (bAnd (bBool (mOp2 eqO (mOp2 ixO (mVar 13) (mC (.int 1))) (mC (.str "done")))) (bBool (mOp2 eqO (mOp2 ixO (mVar 13) (mC (.int 2))) (mVar 3)))) (mOp2 ixO (mVar 13) (mC (.int 4))) [13]) (gVar 7))
      (sSeq (sSet (mCallF 2 F_times_of (aCons (mCallN tupleN (aCons (mVar 6) aNil)) (aCons (mVar 3) aNil))) (gVar 8))
      (sSeq (sIf (bBool (mOp2 eqO (mVar 7) (mLst aNil)))
        (sSeq (sIf (bBool (mOp2 isNotO (mVar 8) (mC .non)))
          (sSeq (sRet (mC (.bl false)))
          sNext)
          sNext)
        (sSeq sCont
        sNext))
        sNext)
      (sSeq (sIf (bOr (bNot (bTru (mCallN isinstN (aCons (mVar 8) (aCons (mC (.ty "tuple")) aNil))))) (bOr (bBool (mOp2 neO (mCallN lenN (aCons (mVar 8) aNil)) (mC (.int 4)))) (bBool (mOp2 neO (mCallN sumN (aCons (mCallN listN (aCons (mVar 8) aNil)) aNil)) (mOp2 ixO (mVar 7) (mC (.int 0)))))))
        (sSeq (sRet (mC (.bl false)))
        sNext)
        sNext)
      (sSeq (sSet (mTup (aCons (mCallF 3 F_law_counts (aCons (mVar 4) (aCons (mVar 5) (aCons (mVar 3) aNil)))) (aCons (mCallF 2 F_law_visits (aCons (mVar 6) (aCons (mVar 3) aNil))) aNil))) (gTupM 2 (gsCons (gVar 11) (gsCons (gVar 12) gsNil))))
      (sSeq (sSet (mCallN sumN (aCons (mLc (iRange1 (mCallN lenN (aCons (mVar 12) aNil))) (gVar 14) bYes (mOp2 subD (mOp2 subD (mOp2 ixO (mOp2 ixO (mVar 12) (mVar 14)) (mC (.int 2))) (mOp2 ixO (mOp2 ixO (mVar 12) (mVar 14)) (mC (.int 1)))) (mCallN intN (aCons (mOp2 gtO (mVar 14) (mC (.int 0))) aNil))) [14]) aNil)) (gVar 9))
      (sSeq (sSet (mTup (aCons (mOp2 ixO (mVar 11) (mC (.int 0))) (aCons (mVar 9) (aCons (mOp2 addD (mOp2 ixO (mVar 11) (mC (.int 2))) (mCallN lenN (aCons (mLc (iSeq (mVar 12)) (gVar 13) (bBool (mOp2 isNotO (mOp2 ixO (mVar 13) (mC (.int 3))) (mC .non))) (mVar 13) [13]) aNil))) (aCons (mOp2 ixO (mVar 11) (mC (.int 3))) aNil))))) (gVar 10))
      (sSeq (sIf (bNot (bTru (mCallF 2 F_law_alike (aCons (mVar 8) (aCons (mVar 10) aNil)))))
        (sSeq (sRet (mC (.bl false)))
        sNext)
        sNext)
      sNext)))))))))
    sNext)))
  (sSeq (sRet (mC (.bl true)))
  sNext)))
noncomputable def F_law : ON := runF S_law 15
def topS (i : Nat) : Stmt := PySem.Challenge.pw_linesure_k25_whole_times_add_up.main.body.getD i (.Pass ⟨0, 0, 0, 0⟩)
def cC : List (Str × D) := [("MOST_MOMENTS", c_MOST_MOMENTS), ("WORDS", c_WORDS)]
def cB : List Str := ["bool", "enumerate", "int", "isinstance", "len", "list", "min", "range", "sorted", "str", "sum", "tuple"]
def N_law_taken : List Str := ["row", "many", "cell", "found"]
noncomputable def T_law_taken : List ((Str × Nat) × ON) := []
theorem eq_law_taken : defM 40 N_law_taken cC cB (T_law_taken) (topS 22) = S_law_taken := by
  kernel_rfl
def N_law_names : List Str := ["row", "many", "letters", "head", "tail", "kind", "k", "start", "names", "sign"]
noncomputable def T_law_names : List ((Str × Nat) × ON) := [(("_law_taken", 2), F_law_taken)]
theorem eq_law_names : defM 40 N_law_names cC cB (T_law_names) (topS 25) = S_law_names := by
  kernel_rfl
def N_law_pick : List Str := ["row", "things"]
noncomputable def T_law_pick : List ((Str × Nat) × ON) := [(("_law_taken", 2), F_law_taken)]
theorem eq_law_pick : defM 40 N_law_pick cC cB (T_law_pick) (topS 23) = S_law_pick := by
  kernel_rfl
def N_law_station : List Str := ["row", "name", "life"]
noncomputable def T_law_station : List ((Str × Nat) × ON) := [(("_law_pick", 2), F_law_pick), (("_law_taken", 2), F_law_taken)]
theorem eq_law_station : defM 40 N_law_station cC cB (T_law_station) (topS 26) = S_law_station := by
  kernel_rfl
def N_law_steps : List Str := ["row", "names", "most", "steps", "k", "back"]
noncomputable def T_law_steps : List ((Str × Nat) × ON) := [(("_law_taken", 2), F_law_taken), (("_law_pick", 2), F_law_pick)]
theorem eq_law_steps : defM 40 N_law_steps cC cB (T_law_steps) (topS 27) = S_law_steps := by
  kernel_rfl
def N_law_setups : List Str := ["row", "stations", "kinds", "found", "at", "one", "other"]
noncomputable def T_law_setups : List ((Str × Nat) × ON) := [(("_law_taken", 2), F_law_taken)]
theorem eq_law_setups : defM 40 N_law_setups cC cB (T_law_setups) (topS 28) = S_law_setups := by
  kernel_rfl
def N_law_small : List Str := ["row", "stations", "kinds", "period", "rows", "routes", "name", "many", "leads", "orders", "faults", "one", "k"]
noncomputable def T_law_small : List ((Str × Nat) × ON) := [(("_law_names", 2), F_law_names), (("_law_pick", 2), F_law_pick), (("_law_station", 2), F_law_station), (("_law_steps", 3), F_law_steps), (("_law_taken", 2), F_law_taken), (("_law_setups", 3), F_law_setups)]
theorem eq_law_small : defM 40 N_law_small cC cB (T_law_small) (topS 29) = S_law_small := by
  kernel_rfl
def N_law_start : List Str := ["parts", "one"]
noncomputable def T_law_start : List ((Str × Nat) × ON) := []
theorem eq_law_start : defM 40 N_law_start cC cB (T_law_start) (topS 35) = S_law_start := by
  kernel_rfl
def N_law_spot : List Str := ["parts", "station", "k"]
noncomputable def T_law_spot : List ((Str × Nat) × ON) := []
theorem eq_law_spot : defM 40 N_law_spot cC cB (T_law_spot) (topS 32) = S_law_spot := by
  kernel_rfl
def N_law_route : List Str := ["parts", "kind", "one"]
noncomputable def T_law_route : List ((Str × Nat) × ON) := []
theorem eq_law_route : defM 40 N_law_route cC cB (T_law_route) (topS 30) = S_law_route := by
  kernel_rfl
def N_law_way : List Str := ["parts", "part"]
noncomputable def T_law_way : List ((Str × Nat) × ON) := [(("_law_route", 2), F_law_route)]
theorem eq_law_way : defM 40 N_law_way cC cB (T_law_way) (topS 31) = S_law_way := by
  kernel_rfl
def N_law_goal : List Str := ["parts", "part"]
noncomputable def T_law_goal : List ((Str × Nat) × ON) := [(("_law_spot", 2), F_law_spot), (("_law_way", 2), F_law_way)]
theorem eq_law_goal : defM 40 N_law_goal cC cB (T_law_goal) (topS 33) = S_law_goal := by
  kernel_rfl
def N_law_setup : List Str := ["parts", "station", "one", "other", "found", "each"]
noncomputable def T_law_setup : List ((Str × Nat) × ON) := []
theorem eq_law_setup : defM 40 N_law_setup cC cB (T_law_setup) (topS 34) = S_law_setup := by
  kernel_rfl
def N_law_begin : List Str := ["parts", "at", "bay", "part", "rows", "busy", "name", "room", "life", "change", "repair", "kind", "work"]
noncomputable def T_law_begin : List ((Str × Nat) × ON) := [(("_law_way", 2), F_law_way), (("_law_setup", 4), F_law_setup)]
theorem eq_law_begin : defM 40 N_law_begin cC cB (T_law_begin) (topS 36) = S_law_begin := by
  kernel_rfl
def N_law_work : List Str := ["parts", "at", "bay", "word", "rows", "part", "left", "is_spoiled", "step"]
noncomputable def T_law_work : List ((Str × Nat) × ON) := [(("_law_way", 2), F_law_way)]
theorem eq_law_work : defM 40 N_law_work cC cB (T_law_work) (topS 37) = S_law_work := by
  kernel_rfl
def N_law_older : List Str := ["part"]
noncomputable def T_law_older : List ((Str × Nat) × ON) := []
theorem eq_law_older : defM 40 N_law_older cC cB (T_law_older) (topS 38) = S_law_older := by
  kernel_rfl
def N_law_closed : List Str := ["parts", "phase", "strikes", "bays", "queues", "gate", "is_struck", "told", "bay", "ago", "lines", "left", "one", "queue", "part"]
noncomputable def T_law_closed : List ((Str × Nat) × ON) := [(("_law_older", 1), F_law_older)]
theorem eq_law_closed : defM 40 N_law_closed cC cB (T_law_closed) (topS 39) = S_law_closed := by
  kernel_rfl
def N_law_moment : List Str := ["parts", "state", "word", "tags", "bays", "queues", "coming", "k", "stay", "part", "at", "phase", "strikes", "gate", "rows", "names", "inside", "bay", "queue", "one"]
noncomputable def T_law_moment : List ((Str × Nat) × ON) := [(("_law_goal", 2), F_law_goal), (("_law_begin", 5), F_law_begin), (("_law_work", 5), F_law_work), (("_law_way", 2), F_law_way), (("_law_closed", 7), F_law_closed)]
theorem eq_law_moment : defM 40 N_law_moment cC cB (T_law_moment) (topS 40) = S_law_moment := by
  kernel_rfl
def N_law_open : List Str := ["parts", "state", "found", "rows", "at", "row"]
noncomputable def T_law_open : List ((Str × Nat) × ON) := [(("_law_moment", 4), F_law_moment), (("_law_way", 2), F_law_way)]
theorem eq_law_open : defM 40 N_law_open cC cB (T_law_open) (topS 41) = S_law_open := by
  kernel_rfl
def N_law_walk : List Str := ["row", "parts", "many", "often", "turn", "states", "said", "open_now", "word"]
noncomputable def T_law_walk : List ((Str × Nat) × ON) := [(("_law_start", 1), F_law_start), (("_law_pick", 2), F_law_pick), (("_law_open", 2), F_law_open), (("_law_taken", 2), F_law_taken), (("_law_moment", 4), F_law_moment)]
theorem eq_law_walk : defM 40 N_law_walk cC cB (T_law_walk) (topS 43) = S_law_walk := by
  kernel_rfl
def N_law_inside : List Str := ["state", "found", "queue", "bay"]
noncomputable def T_law_inside : List ((Str × Nat) × ON) := []
theorem eq_law_inside : defM 40 N_law_inside cC cB (T_law_inside) (topS 42) = S_law_inside := by
  kernel_rfl
def N_law_log : List Str := ["parts", "course", "moment", "state", "found", "coming", "many", "late", "rows", "word", "part", "at", "number", "one", "k"]
noncomputable def T_law_log : List ((Str × Nat) × ON) := [(("_law_start", 1), F_law_start), (("_law_moment", 4), F_law_moment), (("_law_inside", 1), F_law_inside)]
theorem eq_law_log : defM 40 N_law_log cC cB (T_law_log) (topS 44) = S_law_log := by
  kernel_rfl
def N_law_lines : List Str := ["row", "parts", "kinds", "orders", "course", "one", "k"]
noncomputable def T_law_lines : List ((Str × Nat) × ON) := [(("_law_small", 1), F_law_small), (("_law_taken", 2), F_law_taken), (("_law_pick", 2), F_law_pick), (("_law_walk", 3), F_law_walk), (("_law_log", 2), F_law_log)]
theorem eq_law_lines : defM 40 N_law_lines cC cB (T_law_lines) (topS 48) = S_law_lines := by
  kernel_rfl
def N_law_tickets : List Str := ["log", "one"]
noncomputable def T_law_tickets : List ((Str × Nat) × ON) := []
theorem eq_law_tickets : defM 40 N_law_tickets cC cB (T_law_tickets) (topS 45) = S_law_tickets := by
  kernel_rfl
def N_is_whole : List Str := ["value"]
noncomputable def T_is_whole : List ((Str × Nat) × ON) := []
theorem eq_is_whole : defM 40 N_is_whole cC cB (T_is_whole) (topS 5) = S_is_whole := by
  kernel_rfl
def N_is_within : List Str := ["value", "least", "most"]
noncomputable def T_is_within : List ((Str × Nat) × ON) := [(("is_whole", 1), F_is_whole)]
theorem eq_is_within : defM 40 N_is_within cC cB (T_is_within) (topS 6) = S_is_within := by
  kernel_rfl
def N_is_row : List Str := ["value", "size"]
noncomputable def T_is_row : List ((Str × Nat) × ON) := []
theorem eq_is_row : defM 40 N_is_row cC cB (T_is_row) (topS 7) = S_is_row := by
  kernel_rfl
def N_is_log_row : List Str := ["value"]
noncomputable def T_is_log_row : List ((Str × Nat) × ON) := [(("is_within", 3), F_is_within), (("is_row", 2), F_is_row), (("is_whole", 1), F_is_whole)]
theorem eq_is_log_row : defM 40 N_is_log_row cC cB (T_is_log_row) (topS 11) = S_is_log_row := by
  kernel_rfl
def N_require_log : List Str := ["log", "place", "row"]
noncomputable def T_require_log : List ((Str × Nat) × ON) := [(("is_log_row", 1), F_is_log_row)]
theorem eq_require_log : defM 40 N_require_log cC cB (T_require_log) (topS 12) = S_require_log := by
  kernel_rfl
def N_tickets_in : List Str := ["log", "row"]
noncomputable def T_tickets_in : List ((Str × Nat) × ON) := [(("require_log", 1), F_require_log)]
theorem eq_tickets_in : defM 40 N_tickets_in cC cB (T_tickets_in) (topS 13) = S_tickets_in := by
  kernel_rfl
def N_story : List Str := ["log", "ticket", "known", "row"]
noncomputable def T_story : List ((Str × Nat) × ON) := [(("tickets_in", 1), F_tickets_in), (("is_whole", 1), F_is_whole)]
theorem eq_story : defM 40 N_story cC cB (T_story) (topS 14) = S_story := by
  kernel_rfl
def N_done_at : List Str := ["log", "ticket", "last", "row"]
noncomputable def T_done_at : List ((Str × Nat) × ON) := [(("story", 2), F_story)]
theorem eq_done_at : defM 40 N_done_at cC cB (T_done_at) (topS 19) = S_done_at := by
  kernel_rfl
def N_visit_with : List Str := ["visit", "word", "moment", "station", "queued", "took", "finished", "gone", "spoiled"]
noncomputable def T_visit_with : List ((Str × Nat) × ON) := []
theorem eq_visit_with : defM 40 N_visit_with cC cB (T_visit_with) (topS 16) = S_visit_with := by
  kernel_rfl
def N_visits : List Str := ["log", "ticket", "found", "moment", "word", "number", "station", "told"]
noncomputable def T_visits : List ((Str × Nat) × ON) := [(("story", 2), F_story), (("visit_with", 3), F_visit_with)]
theorem eq_visits : defM 40 N_visits cC cB (T_visits) (topS 17) = S_visits := by
  kernel_rfl
def N_came_at : List Str := ["log", "ticket"]
noncomputable def T_came_at : List ((Str × Nat) × ON) := [(("story", 2), F_story)]
theorem eq_came_at : defM 40 N_came_at cC cB (T_came_at) (topS 18) = S_came_at := by
  kernel_rfl
def N_times_of : List Str := ["log", "ticket", "rows", "gate", "lined", "held", "waited", "place", "station", "queued", "took", "finished", "gone", "spoiled"]
noncomputable def T_times_of : List ((Str × Nat) × ON) := [(("done_at", 2), F_done_at), (("visits", 2), F_visits), (("came_at", 2), F_came_at)]
theorem eq_times_of : defM 40 N_times_of cC cB (T_times_of) (topS 20) = S_times_of := by
  kernel_rfl
def N_law_story : List Str := ["log", "ticket", "one"]
noncomputable def T_law_story : List ((Str × Nat) × ON) := []
theorem eq_law_story : defM 40 N_law_story cC cB (T_law_story) (topS 46) = S_law_story := by
  kernel_rfl
def N_law_visits : List Str := ["log", "ticket", "found", "moment", "word", "number", "station", "told"]
noncomputable def T_law_visits : List ((Str × Nat) × ON) := [(("_law_story", 2), F_law_story)]
theorem eq_law_visits : defM 40 N_law_visits cC cB (T_law_visits) (topS 47) = S_law_visits := by
  kernel_rfl
def N_law_counts : List Str := ["parts", "course", "ticket", "word", "state", "coming", "found", "many", "queue", "bay", "rows", "one", "part", "k"]
noncomputable def T_law_counts : List ((Str × Nat) × ON) := [(("_law_start", 1), F_law_start), (("_law_moment", 4), F_law_moment)]
theorem eq_law_counts : defM 40 N_law_counts cC cB (T_law_counts) (topS 49) = S_law_counts := by
  kernel_rfl
def N_law_alike : List Str := ["found", "due", "k"]
noncomputable def T_law_alike (self : ON) : List ((Str × Nat) × ON) := [(("_law_alike", 2), self)]
theorem eq_law_alike : ∀ self : ON, defM 40 N_law_alike cC cB (T_law_alike self) (topS 24) = S_law_alike self := by
  intro self
  kernel_rfl
def N_law : List Str := ["script", "row", "turn", "ticket", "parts", "course", "log", "took", "told", "lined", "due", "counts", "visits_due", "one", "k"]
noncomputable def T_law : List ((Str × Nat) × ON) := [(("_law_lines", 1), F_law_lines), (("_law_tickets", 1), F_law_tickets), (("times_of", 2), F_times_of), (("_law_visits", 2), F_law_visits), (("_law_counts", 3), F_law_counts), (("_law_alike", 2), F_law_alike)]
theorem eq_law : defM 40 N_law cC cB (T_law) (topS 50) = S_law := by
  kernel_rfl
def mkD (x : Str) (i : Nat) : He.DefD := ⟨(x, none), x, x, defArgs (topS i), defBody (topS i), defScope (topS i), [], []⟩
def fnL : List He.DefD := ([mkD "_law_taken" 22, mkD "_law_names" 25, mkD "_law_pick" 23, mkD "_law_station" 26, mkD "_law_steps" 27, mkD "_law_setups" 28, mkD "_law_small" 29, mkD "_law_start" 35, mkD "_law_spot" 32, mkD "_law_route" 30, mkD "_law_way" 31, mkD "_law_goal" 33, mkD "_law_setup" 34, mkD "_law_begin" 36, mkD "_law_work" 37, mkD "_law_older" 38, mkD "_law_closed" 39, mkD "_law_moment" 40, mkD "_law_open" 41, mkD "_law_walk" 43, mkD "_law_inside" 42, mkD "_law_log" 44, mkD "_law_lines" 48, mkD "_law_tickets" 45, mkD "is_whole" 5, mkD "is_within" 6, mkD "is_row" 7, mkD "is_log_row" 11, mkD "require_log" 12, mkD "tickets_in" 13] : List He.DefD) ++ ([mkD "story" 14, mkD "done_at" 19, mkD "visit_with" 16, mkD "visits" 17, mkD "came_at" 18, mkD "times_of" 20, mkD "_law_story" 46, mkD "_law_visits" 47, mkD "_law_counts" 49, mkD "_law_alike" 24, mkD "law" 50] : List He.DefD)
def faL : List He.Fa := ([.glo "_law_taken", .glo "_law_names", .glo "_law_pick", .glo "_law_station", .glo "_law_steps", .glo "_law_setups", .glo "_law_small", .glo "_law_start", .glo "_law_spot", .glo "_law_route", .glo "_law_way", .glo "_law_goal", .glo "_law_setup", .glo "_law_begin", .glo "_law_work", .glo "_law_older", .glo "_law_closed", .glo "_law_moment", .glo "_law_open", .glo "_law_walk", .glo "_law_inside", .glo "_law_log", .glo "_law_lines", .glo "_law_tickets", .glo "is_whole", .glo "is_within", .glo "is_row", .glo "is_log_row", .glo "require_log", .glo "tickets_in"] : List He.Fa) ++ ([.glo "story", .glo "done_at", .glo "visit_with", .glo "visits", .glo "came_at", .glo "times_of", .glo "_law_story", .glo "_law_visits", .glo "_law_counts", .glo "_law_alike", .glo "law", .free "bool", .free "enumerate", .free "int", .free "isinstance", .free "len", .free "list", .free "min", .free "range", .free "sorted", .free "str", .free "sum", .free "tuple", .int "MOST_MOMENTS" 600, .glo "WORDS"] : List He.Fa)
def looseL : List Str := (["LineError", "UnknownTicket", "BadLog", "is_whole", "is_within", "is_row", "MOST_MOMENTS", "WORDS", "is_log_row", "require_log", "tickets_in", "story", "visit_with", "visits", "came_at", "done_at", "times_of", "_law_taken", "_law_pick", "_law_alike", "_law_names", "_law_station", "_law_steps", "_law_setups", "_law_small", "_law_route", "_law_way", "_law_spot", "_law_goal", "_law_setup"] : List Str) ++ (["_law_start", "_law_begin", "_law_work", "_law_older", "_law_closed", "_law_moment", "_law_open", "_law_inside", "_law_walk", "_law_log", "_law_tickets", "_law_story", "_law_visits", "_law_lines", "_law_counts"] : List Str)
abbrev rowL : PySem.W.OpenRow := PySem.W.OpenLaw.row PySem.Challenge.rw_linesure_k25_whole_times_add_up
def dv_WORDS : List He.Dv := [.str "struck", .str "came", .str "queued", .str "changed", .str "took", .str "finished", .str "spoiled", .str "done", .str "late"]
def exL (K : PySem.W.Frag) : Bool := He.tupB K "WORDS" dv_WORDS
abbrev hkL : PySem.W.Hook := He.hookX 4 faL fnL [] [] exL
def obL (s : PySem.W.SharedT) : He.AlX := He.obsX 4 faL fnL [] [] exL (HandSHeadRun.getT s)
theorem obL_eq (s : PySem.W.SharedT) : obL s = hkL.obs s.abs := He.obsX_eq (HandSHeadRun.getT_eq s)
theorem runL (w : World) : HandSHeadRun.RunEq rowL (PySem.W.view rowL.prog [50]) hkL obL 4000 looseL w := by
  intro os
  kernel_rfl
theorem sc_law_taken : FnScope N_law_taken ["row", "many"] (defScope (topS 22)) := ⟨rfl, rfl, rfl, by decide +kernel, rfl, by decide +kernel, by decide +kernel⟩
theorem sc_law_names : FnScope N_law_names ["row", "many"] (defScope (topS 25)) := ⟨rfl, rfl, rfl, by decide +kernel, rfl, by decide +kernel, by decide +kernel⟩
theorem sc_law_pick : FnScope N_law_pick ["row", "things"] (defScope (topS 23)) := ⟨rfl, rfl, rfl, by decide +kernel, rfl, by decide +kernel, by decide +kernel⟩
theorem sc_law_station : FnScope N_law_station ["row", "name"] (defScope (topS 26)) := ⟨rfl, rfl, rfl, by decide +kernel, rfl, by decide +kernel, by decide +kernel⟩
theorem sc_law_steps : FnScope N_law_steps ["row", "names", "most"] (defScope (topS 27)) := ⟨rfl, rfl, rfl, by decide +kernel, rfl, by decide +kernel, by decide +kernel⟩
theorem sc_law_setups : FnScope N_law_setups ["row", "stations", "kinds"] (defScope (topS 28)) := ⟨rfl, rfl, rfl, by decide +kernel, rfl, by decide +kernel, by decide +kernel⟩
theorem sc_law_small : FnScope N_law_small ["row"] (defScope (topS 29)) := ⟨rfl, rfl, rfl, by decide +kernel, rfl, by decide +kernel, by decide +kernel⟩
theorem sc_law_start : FnScope N_law_start ["parts"] (defScope (topS 35)) := ⟨rfl, rfl, rfl, by decide +kernel, rfl, by decide +kernel, by decide +kernel⟩
theorem sc_law_spot : FnScope N_law_spot ["parts", "station"] (defScope (topS 32)) := ⟨rfl, rfl, rfl, by decide +kernel, rfl, by decide +kernel, by decide +kernel⟩
theorem sc_law_route : FnScope N_law_route ["parts", "kind"] (defScope (topS 30)) := ⟨rfl, rfl, rfl, by decide +kernel, rfl, by decide +kernel, by decide +kernel⟩
theorem sc_law_way : FnScope N_law_way ["parts", "part"] (defScope (topS 31)) := ⟨rfl, rfl, rfl, by decide +kernel, rfl, by decide +kernel, by decide +kernel⟩
theorem sc_law_goal : FnScope N_law_goal ["parts", "part"] (defScope (topS 33)) := ⟨rfl, rfl, rfl, by decide +kernel, rfl, by decide +kernel, by decide +kernel⟩
theorem sc_law_setup : FnScope N_law_setup ["parts", "station", "one", "other"] (defScope (topS 34)) := ⟨rfl, rfl, rfl, by decide +kernel, rfl, by decide +kernel, by decide +kernel⟩
theorem sc_law_begin : FnScope N_law_begin ["parts", "at", "bay", "part", "rows"] (defScope (topS 36)) := ⟨rfl, rfl, rfl, by decide +kernel, rfl, by decide +kernel, by decide +kernel⟩
theorem sc_law_work : FnScope N_law_work ["parts", "at", "bay", "word", "rows"] (defScope (topS 37)) := ⟨rfl, rfl, rfl, by decide +kernel, rfl, by decide +kernel, by decide +kernel⟩
theorem sc_law_older : FnScope N_law_older ["part"] (defScope (topS 38)) := ⟨rfl, rfl, rfl, by decide +kernel, rfl, by decide +kernel, by decide +kernel⟩
theorem sc_law_closed : FnScope N_law_closed ["parts", "phase", "strikes", "bays", "queues", "gate", "is_struck"] (defScope (topS 39)) := ⟨rfl, rfl, rfl, by decide +kernel, rfl, by decide +kernel, by decide +kernel⟩
theorem sc_law_moment : FnScope N_law_moment ["parts", "state", "word", "tags"] (defScope (topS 40)) := ⟨rfl, rfl, rfl, by decide +kernel, rfl, by decide +kernel, by decide +kernel⟩
theorem sc_law_open : FnScope N_law_open ["parts", "state"] (defScope (topS 41)) := ⟨rfl, rfl, rfl, by decide +kernel, rfl, by decide +kernel, by decide +kernel⟩
theorem sc_law_walk : FnScope N_law_walk ["row", "parts", "many"] (defScope (topS 43)) := ⟨rfl, rfl, rfl, by decide +kernel, rfl, by decide +kernel, by decide +kernel⟩
theorem sc_law_inside : FnScope N_law_inside ["state"] (defScope (topS 42)) := ⟨rfl, rfl, rfl, by decide +kernel, rfl, by decide +kernel, by decide +kernel⟩
theorem sc_law_log : FnScope N_law_log ["parts", "course"] (defScope (topS 44)) := ⟨rfl, rfl, rfl, by decide +kernel, rfl, by decide +kernel, by decide +kernel⟩
theorem sc_law_lines : FnScope N_law_lines ["row"] (defScope (topS 48)) := ⟨rfl, rfl, rfl, by decide +kernel, rfl, by decide +kernel, by decide +kernel⟩
theorem sc_law_tickets : FnScope N_law_tickets ["log"] (defScope (topS 45)) := ⟨rfl, rfl, rfl, by decide +kernel, rfl, by decide +kernel, by decide +kernel⟩
theorem sc_is_whole : FnScope N_is_whole ["value"] (defScope (topS 5)) := ⟨rfl, rfl, rfl, by decide +kernel, rfl, by decide +kernel, by decide +kernel⟩
theorem sc_is_within : FnScope N_is_within ["value", "least", "most"] (defScope (topS 6)) := ⟨rfl, rfl, rfl, by decide +kernel, rfl, by decide +kernel, by decide +kernel⟩
theorem sc_is_row : FnScope N_is_row ["value", "size"] (defScope (topS 7)) := ⟨rfl, rfl, rfl, by decide +kernel, rfl, by decide +kernel, by decide +kernel⟩
theorem sc_is_log_row : FnScope N_is_log_row ["value"] (defScope (topS 11)) := ⟨rfl, rfl, rfl, by decide +kernel, rfl, by decide +kernel, by decide +kernel⟩
theorem sc_require_log : FnScope N_require_log ["log"] (defScope (topS 12)) := ⟨rfl, rfl, rfl, by decide +kernel, rfl, by decide +kernel, by decide +kernel⟩
theorem sc_tickets_in : FnScope N_tickets_in ["log"] (defScope (topS 13)) := ⟨rfl, rfl, rfl, by decide +kernel, rfl, by decide +kernel, by decide +kernel⟩
theorem sc_story : FnScope N_story ["log", "ticket"] (defScope (topS 14)) := ⟨rfl, rfl, rfl, by decide +kernel, rfl, by decide +kernel, by decide +kernel⟩
theorem sc_done_at : FnScope N_done_at ["log", "ticket"] (defScope (topS 19)) := ⟨rfl, rfl, rfl, by decide +kernel, rfl, by decide +kernel, by decide +kernel⟩
theorem sc_visit_with : FnScope N_visit_with ["visit", "word", "moment"] (defScope (topS 16)) := ⟨rfl, rfl, rfl, by decide +kernel, rfl, by decide +kernel, by decide +kernel⟩
theorem sc_visits : FnScope N_visits ["log", "ticket"] (defScope (topS 17)) := ⟨rfl, rfl, rfl, by decide +kernel, rfl, by decide +kernel, by decide +kernel⟩
theorem sc_came_at : FnScope N_came_at ["log", "ticket"] (defScope (topS 18)) := ⟨rfl, rfl, rfl, by decide +kernel, rfl, by decide +kernel, by decide +kernel⟩
theorem sc_times_of : FnScope N_times_of ["log", "ticket"] (defScope (topS 20)) := ⟨rfl, rfl, rfl, by decide +kernel, rfl, by decide +kernel, by decide +kernel⟩
theorem sc_law_story : FnScope N_law_story ["log", "ticket"] (defScope (topS 46)) := ⟨rfl, rfl, rfl, by decide +kernel, rfl, by decide +kernel, by decide +kernel⟩
theorem sc_law_visits : FnScope N_law_visits ["log", "ticket"] (defScope (topS 47)) := ⟨rfl, rfl, rfl, by decide +kernel, rfl, by decide +kernel, by decide +kernel⟩
theorem sc_law_counts : FnScope N_law_counts ["parts", "course", "ticket"] (defScope (topS 49)) := ⟨rfl, rfl, rfl, by decide +kernel, rfl, by decide +kernel, by decide +kernel⟩
theorem sc_law_alike : FnScope N_law_alike ["found", "due"] (defScope (topS 24)) := ⟨rfl, rfl, rfl, by decide +kernel, rfl, by decide +kernel, by decide +kernel⟩
theorem sc_law : FnScope N_law ["script"] (defScope (topS 50)) := ⟨rfl, rfl, rfl, by decide +kernel, rfl, by decide +kernel, by decide +kernel⟩
section
variable {P : Program} {w : World} {K : PySem.W.Frag} {mg : Str → Option Value} {base h : Heap}
theorem modL (X : K.In h) (G : h.Ns mainGlobals mg) (c : He.SaysD faL fnL K) (m : exL K = true) : ModOk K mg cC cB := by
  refine ModOk.cons (ModOk.cons (modOk_nil (B := cB) (fun x hx => ?_)) (con_tup (vs := dv_WORDS) (He.glo_ok X G (c.fact 54 (f := .glo "WORDS") rfl)) m rfl)) (con_int (He.int_ok X G (c.fact 53 (f := .int "MOST_MOMENTS" 600) rfl)))
  unfold cB at hx
  simp only [List.mem_cons, List.not_mem_nil, or_false] at hx
  rcases hx with rfl | rfl | rfl | rfl | rfl | rfl | rfl | rfl | rfl | rfl | rfl | rfl
  · exact He.free_ok X G (c.fact 41 (f := .free "bool") rfl)
  · exact He.free_ok X G (c.fact 42 (f := .free "enumerate") rfl)
  · exact He.free_ok X G (c.fact 43 (f := .free "int") rfl)
  · exact He.free_ok X G (c.fact 44 (f := .free "isinstance") rfl)
  · exact He.free_ok X G (c.fact 45 (f := .free "len") rfl)
  · exact He.free_ok X G (c.fact 46 (f := .free "list") rfl)
  · exact He.free_ok X G (c.fact 47 (f := .free "min") rfl)
  · exact He.free_ok X G (c.fact 48 (f := .free "range") rfl)
  · exact He.free_ok X G (c.fact 49 (f := .free "sorted") rfl)
  · exact He.free_ok X G (c.fact 50 (f := .free "str") rfl)
  · exact He.free_ok X G (c.fact 51 (f := .free "sum") rfl)
  · exact He.free_ok X G (c.fact 52 (f := .free "tuple") rfl)
theorem tf_law_taken (X : K.In h) (G : h.Ns mainGlobals mg) (c : He.SaysD faL fnL K) (m : exL K = true) : TFok P w K mg base 1 "_law_taken" 2 F_law_taken := by
  obtain ⟨fd, F⟩ := (c.def_ 0 (d := mkD "_law_taken" 22) rfl)
  exact def_of (k := 0) F (He.glo_ok X G (c.fact 0 (f := .glo "_law_taken") rfl)) (fun _ _ _ _ _ _ us hl => match us, hl with | [_, _], _ => rfl) sc_law_taken (modL X G c m) (tl_nil) eq_law_taken
theorem tf_law_names (X : K.In h) (G : h.Ns mainGlobals mg) (c : He.SaysD faL fnL K) (m : exL K = true) : TFok P w K mg base 2 "_law_names" 2 F_law_names := by
  obtain ⟨fd, F⟩ := (c.def_ 1 (d := mkD "_law_names" 25) rfl)
  exact def_of (k := 1) F (He.glo_ok X G (c.fact 1 (f := .glo "_law_names") rfl)) (fun _ _ _ _ _ _ us hl => match us, hl with | [_, _], _ => rfl) sc_law_names (modL X G c m) (tl_cons (tf_law_taken X G c m) (by decide) (tl_nil)) eq_law_names
theorem tf_law_pick (X : K.In h) (G : h.Ns mainGlobals mg) (c : He.SaysD faL fnL K) (m : exL K = true) : TFok P w K mg base 2 "_law_pick" 2 F_law_pick := by
  obtain ⟨fd, F⟩ := (c.def_ 2 (d := mkD "_law_pick" 23) rfl)
  exact def_of (k := 1) F (He.glo_ok X G (c.fact 2 (f := .glo "_law_pick") rfl)) (fun _ _ _ _ _ _ us hl => match us, hl with | [_, _], _ => rfl) sc_law_pick (modL X G c m) (tl_cons (tf_law_taken X G c m) (by decide) (tl_nil)) eq_law_pick
theorem tf_law_station (X : K.In h) (G : h.Ns mainGlobals mg) (c : He.SaysD faL fnL K) (m : exL K = true) : TFok P w K mg base 3 "_law_station" 2 F_law_station := by
  obtain ⟨fd, F⟩ := (c.def_ 3 (d := mkD "_law_station" 26) rfl)
  exact def_of (k := 2) F (He.glo_ok X G (c.fact 3 (f := .glo "_law_station") rfl)) (fun _ _ _ _ _ _ us hl => match us, hl with | [_, _], _ => rfl) sc_law_station (modL X G c m) (tl_cons (tf_law_pick X G c m) (by decide) (tl_cons (tf_law_taken X G c m) (by decide) (tl_nil))) eq_law_station
theorem tf_law_steps (X : K.In h) (G : h.Ns mainGlobals mg) (c : He.SaysD faL fnL K) (m : exL K = true) : TFok P w K mg base 3 "_law_steps" 3 F_law_steps := by
  obtain ⟨fd, F⟩ := (c.def_ 4 (d := mkD "_law_steps" 27) rfl)
  exact def_of (k := 2) F (He.glo_ok X G (c.fact 4 (f := .glo "_law_steps") rfl)) (fun _ _ _ _ _ _ us hl => match us, hl with | [_, _, _], _ => rfl) sc_law_steps (modL X G c m) (tl_cons (tf_law_taken X G c m) (by decide) (tl_cons (tf_law_pick X G c m) (by decide) (tl_nil))) eq_law_steps
theorem tf_law_setups (X : K.In h) (G : h.Ns mainGlobals mg) (c : He.SaysD faL fnL K) (m : exL K = true) : TFok P w K mg base 2 "_law_setups" 3 F_law_setups := by
  obtain ⟨fd, F⟩ := (c.def_ 5 (d := mkD "_law_setups" 28) rfl)
  exact def_of (k := 1) F (He.glo_ok X G (c.fact 5 (f := .glo "_law_setups") rfl)) (fun _ _ _ _ _ _ us hl => match us, hl with | [_, _, _], _ => rfl) sc_law_setups (modL X G c m) (tl_cons (tf_law_taken X G c m) (by decide) (tl_nil)) eq_law_setups
theorem tf_law_small (X : K.In h) (G : h.Ns mainGlobals mg) (c : He.SaysD faL fnL K) (m : exL K = true) : TFok P w K mg base 4 "_law_small" 1 F_law_small := by
  obtain ⟨fd, F⟩ := (c.def_ 6 (d := mkD "_law_small" 29) rfl)
  exact def_of (k := 3) F (He.glo_ok X G (c.fact 6 (f := .glo "_law_small") rfl)) (fun _ _ _ _ _ _ us hl => match us, hl with | [_], _ => rfl) sc_law_small (modL X G c m) (tl_cons (tf_law_names X G c m) (by decide) (tl_cons (tf_law_pick X G c m) (by decide) (tl_cons (tf_law_station X G c m) (by decide) (tl_cons (tf_law_steps X G c m) (by decide) (tl_cons (tf_law_taken X G c m) (by decide) (tl_cons (tf_law_setups X G c m) (by decide) (tl_nil))))))) eq_law_small
theorem tf_law_start (X : K.In h) (G : h.Ns mainGlobals mg) (c : He.SaysD faL fnL K) (m : exL K = true) : TFok P w K mg base 1 "_law_start" 1 F_law_start := by
  obtain ⟨fd, F⟩ := (c.def_ 7 (d := mkD "_law_start" 35) rfl)
  exact def_of (k := 0) F (He.glo_ok X G (c.fact 7 (f := .glo "_law_start") rfl)) (fun _ _ _ _ _ _ us hl => match us, hl with | [_], _ => rfl) sc_law_start (modL X G c m) (tl_nil) eq_law_start
theorem tf_law_spot (X : K.In h) (G : h.Ns mainGlobals mg) (c : He.SaysD faL fnL K) (m : exL K = true) : TFok P w K mg base 1 "_law_spot" 2 F_law_spot := by
  obtain ⟨fd, F⟩ := (c.def_ 8 (d := mkD "_law_spot" 32) rfl)
  exact def_of (k := 0) F (He.glo_ok X G (c.fact 8 (f := .glo "_law_spot") rfl)) (fun _ _ _ _ _ _ us hl => match us, hl with | [_, _], _ => rfl) sc_law_spot (modL X G c m) (tl_nil) eq_law_spot
theorem tf_law_route (X : K.In h) (G : h.Ns mainGlobals mg) (c : He.SaysD faL fnL K) (m : exL K = true) : TFok P w K mg base 1 "_law_route" 2 F_law_route := by
  obtain ⟨fd, F⟩ := (c.def_ 9 (d := mkD "_law_route" 30) rfl)
  exact def_of (k := 0) F (He.glo_ok X G (c.fact 9 (f := .glo "_law_route") rfl)) (fun _ _ _ _ _ _ us hl => match us, hl with | [_, _], _ => rfl) sc_law_route (modL X G c m) (tl_nil) eq_law_route
theorem tf_law_way (X : K.In h) (G : h.Ns mainGlobals mg) (c : He.SaysD faL fnL K) (m : exL K = true) : TFok P w K mg base 2 "_law_way" 2 F_law_way := by
  obtain ⟨fd, F⟩ := (c.def_ 10 (d := mkD "_law_way" 31) rfl)
  exact def_of (k := 1) F (He.glo_ok X G (c.fact 10 (f := .glo "_law_way") rfl)) (fun _ _ _ _ _ _ us hl => match us, hl with | [_, _], _ => rfl) sc_law_way (modL X G c m) (tl_cons (tf_law_route X G c m) (by decide) (tl_nil)) eq_law_way
theorem tf_law_goal (X : K.In h) (G : h.Ns mainGlobals mg) (c : He.SaysD faL fnL K) (m : exL K = true) : TFok P w K mg base 3 "_law_goal" 2 F_law_goal := by
  obtain ⟨fd, F⟩ := (c.def_ 11 (d := mkD "_law_goal" 33) rfl)
  exact def_of (k := 2) F (He.glo_ok X G (c.fact 11 (f := .glo "_law_goal") rfl)) (fun _ _ _ _ _ _ us hl => match us, hl with | [_, _], _ => rfl) sc_law_goal (modL X G c m) (tl_cons (tf_law_spot X G c m) (by decide) (tl_cons (tf_law_way X G c m) (by decide) (tl_nil))) eq_law_goal
theorem tf_law_setup (X : K.In h) (G : h.Ns mainGlobals mg) (c : He.SaysD faL fnL K) (m : exL K = true) : TFok P w K mg base 1 "_law_setup" 4 F_law_setup := by
  obtain ⟨fd, F⟩ := (c.def_ 12 (d := mkD "_law_setup" 34) rfl)
  exact def_of (k := 0) F (He.glo_ok X G (c.fact 12 (f := .glo "_law_setup") rfl)) (fun _ _ _ _ _ _ us hl => match us, hl with | [_, _, _, _], _ => rfl) sc_law_setup (modL X G c m) (tl_nil) eq_law_setup
theorem tf_law_begin (X : K.In h) (G : h.Ns mainGlobals mg) (c : He.SaysD faL fnL K) (m : exL K = true) : TFok P w K mg base 3 "_law_begin" 5 F_law_begin := by
  obtain ⟨fd, F⟩ := (c.def_ 13 (d := mkD "_law_begin" 36) rfl)
  exact def_of (k := 2) F (He.glo_ok X G (c.fact 13 (f := .glo "_law_begin") rfl)) (fun _ _ _ _ _ _ us hl => match us, hl with | [_, _, _, _, _], _ => rfl) sc_law_begin (modL X G c m) (tl_cons (tf_law_way X G c m) (by decide) (tl_cons (tf_law_setup X G c m) (by decide) (tl_nil))) eq_law_begin
theorem tf_law_work (X : K.In h) (G : h.Ns mainGlobals mg) (c : He.SaysD faL fnL K) (m : exL K = true) : TFok P w K mg base 3 "_law_work" 5 F_law_work := by
  obtain ⟨fd, F⟩ := (c.def_ 14 (d := mkD "_law_work" 37) rfl)
  exact def_of (k := 2) F (He.glo_ok X G (c.fact 14 (f := .glo "_law_work") rfl)) (fun _ _ _ _ _ _ us hl => match us, hl with | [_, _, _, _, _], _ => rfl) sc_law_work (modL X G c m) (tl_cons (tf_law_way X G c m) (by decide) (tl_nil)) eq_law_work
theorem tf_law_older (X : K.In h) (G : h.Ns mainGlobals mg) (c : He.SaysD faL fnL K) (m : exL K = true) : TFok P w K mg base 1 "_law_older" 1 F_law_older := by
  obtain ⟨fd, F⟩ := (c.def_ 15 (d := mkD "_law_older" 38) rfl)
  exact def_of (k := 0) F (He.glo_ok X G (c.fact 15 (f := .glo "_law_older") rfl)) (fun _ _ _ _ _ _ us hl => match us, hl with | [_], _ => rfl) sc_law_older (modL X G c m) (tl_nil) eq_law_older
theorem tf_law_closed (X : K.In h) (G : h.Ns mainGlobals mg) (c : He.SaysD faL fnL K) (m : exL K = true) : TFok P w K mg base 2 "_law_closed" 7 F_law_closed := by
  obtain ⟨fd, F⟩ := (c.def_ 16 (d := mkD "_law_closed" 39) rfl)
  exact def_of (k := 1) F (He.glo_ok X G (c.fact 16 (f := .glo "_law_closed") rfl)) (fun _ _ _ _ _ _ us hl => match us, hl with | [_, _, _, _, _, _, _], _ => rfl) sc_law_closed (modL X G c m) (tl_cons (tf_law_older X G c m) (by decide) (tl_nil)) eq_law_closed
theorem tf_law_moment (X : K.In h) (G : h.Ns mainGlobals mg) (c : He.SaysD faL fnL K) (m : exL K = true) : TFok P w K mg base 4 "_law_moment" 4 F_law_moment := by
  obtain ⟨fd, F⟩ := (c.def_ 17 (d := mkD "_law_moment" 40) rfl)
  exact def_of (k := 3) F (He.glo_ok X G (c.fact 17 (f := .glo "_law_moment") rfl)) (fun _ _ _ _ _ _ us hl => match us, hl with | [_, _, _, _], _ => rfl) sc_law_moment (modL X G c m) (tl_cons (tf_law_goal X G c m) (by decide) (tl_cons (tf_law_begin X G c m) (by decide) (tl_cons (tf_law_work X G c m) (by decide) (tl_cons (tf_law_way X G c m) (by decide) (tl_cons (tf_law_closed X G c m) (by decide) (tl_nil)))))) eq_law_moment
theorem tf_law_open (X : K.In h) (G : h.Ns mainGlobals mg) (c : He.SaysD faL fnL K) (m : exL K = true) : TFok P w K mg base 5 "_law_open" 2 F_law_open := by
  obtain ⟨fd, F⟩ := (c.def_ 18 (d := mkD "_law_open" 41) rfl)
  exact def_of (k := 4) F (He.glo_ok X G (c.fact 18 (f := .glo "_law_open") rfl)) (fun _ _ _ _ _ _ us hl => match us, hl with | [_, _], _ => rfl) sc_law_open (modL X G c m) (tl_cons (tf_law_moment X G c m) (by decide) (tl_cons (tf_law_way X G c m) (by decide) (tl_nil))) eq_law_open
theorem tf_law_walk (X : K.In h) (G : h.Ns mainGlobals mg) (c : He.SaysD faL fnL K) (m : exL K = true) : TFok P w K mg base 6 "_law_walk" 3 F_law_walk := by
  obtain ⟨fd, F⟩ := (c.def_ 19 (d := mkD "_law_walk" 43) rfl)
  exact def_of (k := 5) F (He.glo_ok X G (c.fact 19 (f := .glo "_law_walk") rfl)) (fun _ _ _ _ _ _ us hl => match us, hl with | [_, _, _], _ => rfl) sc_law_walk (modL X G c m) (tl_cons (tf_law_start X G c m) (by decide) (tl_cons (tf_law_pick X G c m) (by decide) (tl_cons (tf_law_open X G c m) (by decide) (tl_cons (tf_law_taken X G c m) (by decide) (tl_cons (tf_law_moment X G c m) (by decide) (tl_nil)))))) eq_law_walk
theorem tf_law_inside (X : K.In h) (G : h.Ns mainGlobals mg) (c : He.SaysD faL fnL K) (m : exL K = true) : TFok P w K mg base 1 "_law_inside" 1 F_law_inside := by
  obtain ⟨fd, F⟩ := (c.def_ 20 (d := mkD "_law_inside" 42) rfl)
  exact def_of (k := 0) F (He.glo_ok X G (c.fact 20 (f := .glo "_law_inside") rfl)) (fun _ _ _ _ _ _ us hl => match us, hl with | [_], _ => rfl) sc_law_inside (modL X G c m) (tl_nil) eq_law_inside
theorem tf_law_log (X : K.In h) (G : h.Ns mainGlobals mg) (c : He.SaysD faL fnL K) (m : exL K = true) : TFok P w K mg base 5 "_law_log" 2 F_law_log := by
  obtain ⟨fd, F⟩ := (c.def_ 21 (d := mkD "_law_log" 44) rfl)
  exact def_of (k := 4) F (He.glo_ok X G (c.fact 21 (f := .glo "_law_log") rfl)) (fun _ _ _ _ _ _ us hl => match us, hl with | [_, _], _ => rfl) sc_law_log (modL X G c m) (tl_cons (tf_law_start X G c m) (by decide) (tl_cons (tf_law_moment X G c m) (by decide) (tl_cons (tf_law_inside X G c m) (by decide) (tl_nil)))) eq_law_log
theorem tf_law_lines (X : K.In h) (G : h.Ns mainGlobals mg) (c : He.SaysD faL fnL K) (m : exL K = true) : TFok P w K mg base 7 "_law_lines" 1 F_law_lines := by
  obtain ⟨fd, F⟩ := (c.def_ 22 (d := mkD "_law_lines" 48) rfl)
  exact def_of (k := 6) F (He.glo_ok X G (c.fact 22 (f := .glo "_law_lines") rfl)) (fun _ _ _ _ _ _ us hl => match us, hl with | [_], _ => rfl) sc_law_lines (modL X G c m) (tl_cons (tf_law_small X G c m) (by decide) (tl_cons (tf_law_taken X G c m) (by decide) (tl_cons (tf_law_pick X G c m) (by decide) (tl_cons (tf_law_walk X G c m) (by decide) (tl_cons (tf_law_log X G c m) (by decide) (tl_nil)))))) eq_law_lines
theorem tf_law_tickets (X : K.In h) (G : h.Ns mainGlobals mg) (c : He.SaysD faL fnL K) (m : exL K = true) : TFok P w K mg base 1 "_law_tickets" 1 F_law_tickets := by
  obtain ⟨fd, F⟩ := (c.def_ 23 (d := mkD "_law_tickets" 45) rfl)
  exact def_of (k := 0) F (He.glo_ok X G (c.fact 23 (f := .glo "_law_tickets") rfl)) (fun _ _ _ _ _ _ us hl => match us, hl with | [_], _ => rfl) sc_law_tickets (modL X G c m) (tl_nil) eq_law_tickets
theorem tf_is_whole (X : K.In h) (G : h.Ns mainGlobals mg) (c : He.SaysD faL fnL K) (m : exL K = true) : TFok P w K mg base 1 "is_whole" 1 F_is_whole := by
  obtain ⟨fd, F⟩ := (c.def_ 24 (d := mkD "is_whole" 5) rfl)
  exact def_of (k := 0) F (He.glo_ok X G (c.fact 24 (f := .glo "is_whole") rfl)) (fun _ _ _ _ _ _ us hl => match us, hl with | [_], _ => rfl) sc_is_whole (modL X G c m) (tl_nil) eq_is_whole
theorem tf_is_within (X : K.In h) (G : h.Ns mainGlobals mg) (c : He.SaysD faL fnL K) (m : exL K = true) : TFok P w K mg base 2 "is_within" 3 F_is_within := by
  obtain ⟨fd, F⟩ := (c.def_ 25 (d := mkD "is_within" 6) rfl)
  exact def_of (k := 1) F (He.glo_ok X G (c.fact 25 (f := .glo "is_within") rfl)) (fun _ _ _ _ _ _ us hl => match us, hl with | [_, _, _], _ => rfl) sc_is_within (modL X G c m) (tl_cons (tf_is_whole X G c m) (by decide) (tl_nil)) eq_is_within
theorem tf_is_row (X : K.In h) (G : h.Ns mainGlobals mg) (c : He.SaysD faL fnL K) (m : exL K = true) : TFok P w K mg base 1 "is_row" 2 F_is_row := by
  obtain ⟨fd, F⟩ := (c.def_ 26 (d := mkD "is_row" 7) rfl)
  exact def_of (k := 0) F (He.glo_ok X G (c.fact 26 (f := .glo "is_row") rfl)) (fun _ _ _ _ _ _ us hl => match us, hl with | [_, _], _ => rfl) sc_is_row (modL X G c m) (tl_nil) eq_is_row
theorem tf_is_log_row (X : K.In h) (G : h.Ns mainGlobals mg) (c : He.SaysD faL fnL K) (m : exL K = true) : TFok P w K mg base 3 "is_log_row" 1 F_is_log_row := by
  obtain ⟨fd, F⟩ := (c.def_ 27 (d := mkD "is_log_row" 11) rfl)
  exact def_of (k := 2) F (He.glo_ok X G (c.fact 27 (f := .glo "is_log_row") rfl)) (fun _ _ _ _ _ _ us hl => match us, hl with | [_], _ => rfl) sc_is_log_row (modL X G c m) (tl_cons (tf_is_within X G c m) (by decide) (tl_cons (tf_is_row X G c m) (by decide) (tl_cons (tf_is_whole X G c m) (by decide) (tl_nil)))) eq_is_log_row
theorem tf_require_log (X : K.In h) (G : h.Ns mainGlobals mg) (c : He.SaysD faL fnL K) (m : exL K = true) : TFok P w K mg base 4 "require_log" 1 F_require_log := by
  obtain ⟨fd, F⟩ := (c.def_ 28 (d := mkD "require_log" 12) rfl)
  exact def_of (k := 3) F (He.glo_ok X G (c.fact 28 (f := .glo "require_log") rfl)) (fun _ _ _ _ _ _ us hl => match us, hl with | [_], _ => rfl) sc_require_log (modL X G c m) (tl_cons (tf_is_log_row X G c m) (by decide) (tl_nil)) eq_require_log
theorem tf_tickets_in (X : K.In h) (G : h.Ns mainGlobals mg) (c : He.SaysD faL fnL K) (m : exL K = true) : TFok P w K mg base 5 "tickets_in" 1 F_tickets_in := by
  obtain ⟨fd, F⟩ := (c.def_ 29 (d := mkD "tickets_in" 13) rfl)
  exact def_of (k := 4) F (He.glo_ok X G (c.fact 29 (f := .glo "tickets_in") rfl)) (fun _ _ _ _ _ _ us hl => match us, hl with | [_], _ => rfl) sc_tickets_in (modL X G c m) (tl_cons (tf_require_log X G c m) (by decide) (tl_nil)) eq_tickets_in
theorem tf_story (X : K.In h) (G : h.Ns mainGlobals mg) (c : He.SaysD faL fnL K) (m : exL K = true) : TFok P w K mg base 6 "story" 2 F_story := by
  obtain ⟨fd, F⟩ := (c.def_ 30 (d := mkD "story" 14) rfl)
  exact def_of (k := 5) F (He.glo_ok X G (c.fact 30 (f := .glo "story") rfl)) (fun _ _ _ _ _ _ us hl => match us, hl with | [_, _], _ => rfl) sc_story (modL X G c m) (tl_cons (tf_tickets_in X G c m) (by decide) (tl_cons (tf_is_whole X G c m) (by decide) (tl_nil))) eq_story
theorem tf_done_at (X : K.In h) (G : h.Ns mainGlobals mg) (c : He.SaysD faL fnL K) (m : exL K = true) : TFok P w K mg base 7 "done_at" 2 F_done_at := by
  obtain ⟨fd, F⟩ := (c.def_ 31 (d := mkD "done_at" 19) rfl)
  exact def_of (k := 6) F (He.glo_ok X G (c.fact 31 (f := .glo "done_at") rfl)) (fun _ _ _ _ _ _ us hl => match us, hl with | [_, _], _ => rfl) sc_done_at (modL X G c m) (tl_cons (tf_story X G c m) (by decide) (tl_nil)) eq_done_at
theorem tf_visit_with (X : K.In h) (G : h.Ns mainGlobals mg) (c : He.SaysD faL fnL K) (m : exL K = true) : TFok P w K mg base 1 "visit_with" 3 F_visit_with := by
  obtain ⟨fd, F⟩ := (c.def_ 32 (d := mkD "visit_with" 16) rfl)
  exact def_of (k := 0) F (He.glo_ok X G (c.fact 32 (f := .glo "visit_with") rfl)) (fun _ _ _ _ _ _ us hl => match us, hl with | [_, _, _], _ => rfl) sc_visit_with (modL X G c m) (tl_nil) eq_visit_with
theorem tf_visits (X : K.In h) (G : h.Ns mainGlobals mg) (c : He.SaysD faL fnL K) (m : exL K = true) : TFok P w K mg base 7 "visits" 2 F_visits := by
  obtain ⟨fd, F⟩ := (c.def_ 33 (d := mkD "visits" 17) rfl)
  exact def_of (k := 6) F (He.glo_ok X G (c.fact 33 (f := .glo "visits") rfl)) (fun _ _ _ _ _ _ us hl => match us, hl with | [_, _], _ => rfl) sc_visits (modL X G c m) (tl_cons (tf_story X G c m) (by decide) (tl_cons (tf_visit_with X G c m) (by decide) (tl_nil))) eq_visits
theorem tf_came_at (X : K.In h) (G : h.Ns mainGlobals mg) (c : He.SaysD faL fnL K) (m : exL K = true) : TFok P w K mg base 7 "came_at" 2 F_came_at := by
  obtain ⟨fd, F⟩ := (c.def_ 34 (d := mkD "came_at" 18) rfl)
  exact def_of (k := 6) F (He.glo_ok X G (c.fact 34 (f := .glo "came_at") rfl)) (fun _ _ _ _ _ _ us hl => match us, hl with | [_, _], _ => rfl) sc_came_at (modL X G c m) (tl_cons (tf_story X G c m) (by decide) (tl_nil)) eq_came_at
theorem tf_times_of (X : K.In h) (G : h.Ns mainGlobals mg) (c : He.SaysD faL fnL K) (m : exL K = true) : TFok P w K mg base 8 "times_of" 2 F_times_of := by
  obtain ⟨fd, F⟩ := (c.def_ 35 (d := mkD "times_of" 20) rfl)
  exact def_of (k := 7) F (He.glo_ok X G (c.fact 35 (f := .glo "times_of") rfl)) (fun _ _ _ _ _ _ us hl => match us, hl with | [_, _], _ => rfl) sc_times_of (modL X G c m) (tl_cons (tf_done_at X G c m) (by decide) (tl_cons (tf_visits X G c m) (by decide) (tl_cons (tf_came_at X G c m) (by decide) (tl_nil)))) eq_times_of
theorem tf_law_story (X : K.In h) (G : h.Ns mainGlobals mg) (c : He.SaysD faL fnL K) (m : exL K = true) : TFok P w K mg base 1 "_law_story" 2 F_law_story := by
  obtain ⟨fd, F⟩ := (c.def_ 36 (d := mkD "_law_story" 46) rfl)
  exact def_of (k := 0) F (He.glo_ok X G (c.fact 36 (f := .glo "_law_story") rfl)) (fun _ _ _ _ _ _ us hl => match us, hl with | [_, _], _ => rfl) sc_law_story (modL X G c m) (tl_nil) eq_law_story
theorem tf_law_visits (X : K.In h) (G : h.Ns mainGlobals mg) (c : He.SaysD faL fnL K) (m : exL K = true) : TFok P w K mg base 2 "_law_visits" 2 F_law_visits := by
  obtain ⟨fd, F⟩ := (c.def_ 37 (d := mkD "_law_visits" 47) rfl)
  exact def_of (k := 1) F (He.glo_ok X G (c.fact 37 (f := .glo "_law_visits") rfl)) (fun _ _ _ _ _ _ us hl => match us, hl with | [_, _], _ => rfl) sc_law_visits (modL X G c m) (tl_cons (tf_law_story X G c m) (by decide) (tl_nil)) eq_law_visits
theorem tf_law_counts (X : K.In h) (G : h.Ns mainGlobals mg) (c : He.SaysD faL fnL K) (m : exL K = true) : TFok P w K mg base 5 "_law_counts" 3 F_law_counts := by
  obtain ⟨fd, F⟩ := (c.def_ 38 (d := mkD "_law_counts" 49) rfl)
  exact def_of (k := 4) F (He.glo_ok X G (c.fact 38 (f := .glo "_law_counts") rfl)) (fun _ _ _ _ _ _ us hl => match us, hl with | [_, _, _], _ => rfl) sc_law_counts (modL X G c m) (tl_cons (tf_law_start X G c m) (by decide) (tl_cons (tf_law_moment X G c m) (by decide) (tl_nil))) eq_law_counts
theorem tfa_law_alike (X : K.In h) (G : h.Ns mainGlobals mg) (c : He.SaysD faL fnL K) (m : exL K = true) : ∀ j, TFok P w K mg base (1 + j) "_law_alike" 2 (F_law_alike_at j) := by
  intro j
  induction j with
  | zero =>
    obtain ⟨fd, F⟩ := (c.def_ 39 (d := mkD "_law_alike" 24) rfl)
    exact (tf_none F (He.glo_ok X G (c.fact 39 (f := .glo "_law_alike") rfl)) (fun _ _ _ _ _ _ us hl => match us, hl with | [_, _], _ => rfl) sc_law_alike rfl).mono (by omega)
  | succ j ih =>
    obtain ⟨fd, F⟩ := (c.def_ 39 (d := mkD "_law_alike" 24) rfl)
    exact def_of (k := 1 + j) F (He.glo_ok X G (c.fact 39 (f := .glo "_law_alike") rfl)) (fun _ _ _ _ _ _ us hl => match us, hl with | [_, _], _ => rfl) sc_law_alike (modL X G c m) (tl_cons (ih) (by omega) (tl_nil)) (eq_law_alike _)
theorem tf_law_alike (X : K.In h) (G : h.Ns mainGlobals mg) (c : He.SaysD faL fnL K) (m : exL K = true) : TFok P w K mg base 13 "_law_alike" 2 F_law_alike := tfa_law_alike X G c m 12
theorem factsL {f : Addr} (X : K.In h) (G : h.Ns mainGlobals mg) (hfa : mg ("law" : Str) = some (.ref f)) (c : He.SaysD faL fnL K) (m : exL K = true) :
    ∃ fd : FuncData, (∀ (s : Shared) (v : Value), BindsTo s fd ⟨[v], []⟩ [("script", v)]) ∧ ∀ base : Heap, K.In base → base.Ns mainGlobals mg → FnOk P w K mg base CX0 14 f fd ["script"] (spF K 1 F_law) := by
  obtain ⟨fd, F⟩ := (c.def_ 40 (d := mkD "law" 50) rfl)
  have e := hfa.symm.trans (He.glo_ok X G (c.fact 40 (f := .glo "law") rfl))
  cases e
  have b := FunD.bindsA (ps := ["script"]) F fun _ _ _ _ _ _ us hl => match us, hl with | [_], _ => rfl
  refine ⟨fd, fun s v => b s [v] rfl, fun base X' G' => ?_⟩
  exact law_of (k := 13) F sc_law (modL X G c m) (tl_cons (tf_law_lines X G c m) (by decide) (tl_cons (tf_law_tickets X G c m) (by decide) (tl_cons (tf_times_of X G c m) (by decide) (tl_cons (tf_law_visits X G c m) (by decide) (tl_cons (tf_law_counts X G c m) (by decide) (tl_cons (tf_law_alike X G c m) (by decide) (tl_nil))))))) eq_law
end
theorem law_from (hF : ∀ ns : List Int, ∃ h', F_law [.loc 0] [.frz ns] = some (.bl true, h')) : PySem.Challenge.rw_linesure_k25_whole_times_add_up.Holds := by
  w_on; o_law
  refine HandSHeadRun.head_any (r := PySem.W.OpenLaw.row PySem.Challenge.rw_linesure_k25_whole_times_add_up) (q := PySem.W.view (PySem.W.OpenLaw.row PySem.Challenge.rw_linesure_k25_whole_times_add_up).prog [50]) (H := hkL) (ob := obL) (M := 4000) (loose := looseL) (d := HandSHeadRun.topDef (PySem.W.OpenLaw.row PySem.Challenge.rw_linesure_k25_whole_times_add_up).prog 50) (kwd := []) obL_eq
    (by kernel_rfl) (fun s => by kernel_rfl) runL (by kernel_rfl) (by kernel_rfl) (by kernel_rfl) (by rfl) (by first | assumption | decide +kernel) (by decide +kernel) ⟨rfl, rfl, rfl, rfl, rfl, by decide +kernel⟩ ?hw ?hc
  case hw => w_witness2
  case hc =>
    refine L2.walk_ofE (l := PySem.Challenge.rw_linesure_k25_whole_times_add_up) (n := 63) (k := 14) (x := "script") (CX := L2.CX0) rfl (by decide) (by kernel_rfl) ⟨rfl, by decide, by decide⟩ ?F (fun _ _ _ _ z => z)
    intro w mg fa h Y G hmg0
    obtain ⟨K, KX, c0⟩ := Y
    have c : He.SaysD faL fnL K := c0.t.d
    have hmg : mg ("law" : PySem.Str) = some (.ref fa) := by
      have e : (HandSHeadRun.topDef (PySem.W.OpenLaw.row PySem.Challenge.rw_linesure_k25_whole_times_add_up).prog 50).name = ("law" : PySem.Str) := by kernel_rfl
      rw [← e]
      exact hmg0
    obtain ⟨fd, hb, hF'⟩ := factsL (P := (PySem.Challenge.rw_linesure_k25_whole_times_add_up).prog) (w := w) KX G hmg c c0.more
    exact ⟨K, fd, spF K 1 F_law, KX, hb, fun H a ns hl ho hS => law_sp hF H a ns ho hS, hF'⟩
end MP

/-! text SP1 -/
set_option Elab.async false
set_option linter.all false
set_option maxRecDepth 100000
set_option maxHeartbeats 4000000
namespace MP
open PySem PySem.Spec PyProof.Rows
open L2 hiding St
/-! ### draws -/
/-- the drawer stands at r -/
def Rw (r : Nat) (h : Hs) : Prop := ∃ (ns : List Int) (pos seed rest : Int), h[0]? = some (.frz ns) ∧ h[r]? = some (.lst [.loc 0, .int pos, .int seed, .int rest]) ∧ 0 ≤ pos ∧ r ≠ 0
theorem Rw.keep {r : Nat} {h h' : Hs} (w : Rw r h) (f : Fm [] h h') : Rw r h' := by
  obtain ⟨ns, pos, seed, rest, a, b, c⟩ := w
  exact ⟨ns, pos, seed, rest, f.get0 a, f.get0 b, c⟩
theorem Rw.app {r : Nat} {h : Hs} (w : Rw r h) (e : List AO) : Rw r (h ++ e) := w.keep ((Fm.refl [] h).app e)
theorem Rw.lt {r : Nat} {h : Hs} (w : Rw r h) : r < h.length := by obtain ⟨ns, pos, seed, rest, a, b, c⟩ := w; exact lt_of_get b
theorem Rw.set {r : Nat} {h : Hs} (w : Rw r h) {n : Nat} (o : AO) (hn : n ≠ r) (h0 : n ≠ 0) : Rw r (h.set n o) := by
  obtain ⟨ns, pos, seed, rest, a, b, c⟩ := w
  exact ⟨ns, pos, seed, rest, set_oth a h0, set_oth b hn, c⟩
/-- after a step that draws: only the drawer and new places are written -/
structure Gr (r : Nat) (h h' : Hs) : Prop where
  fm : Fm [r] h h'
  rw : Rw r h'
theorem Gr.refl {r : Nat} {h : Hs} (w : Rw r h) : Gr r h h := ⟨Fm.refl _ _, w⟩
theorem Gr.trans {r : Nat} {h h' h'' : Hs} (a : Gr r h h') (b : Gr r h' h'') : Gr r h h'' := ⟨a.fm.trans b.fm, b.rw⟩
theorem Gr.app {r : Nat} {h h' : Hs} (a : Gr r h h') (e : List AO) : Gr r h (h' ++ e) := ⟨a.fm.app e, a.rw.app e⟩
theorem Gr.keep {r : Nat} {h h' h'' : Hs} (a : Gr r h h') (b : Fm [] h' h'') : Gr r h h'' := ⟨a.fm.then0 b, a.rw.keep b⟩
theorem Gr.get {r l : Nat} {h h' : Hs} {o : AO} (a : Gr r h h') (e : h[l]? = some o) (n : l ≠ r) : h'[l]? = some o := a.fm.get e (by simpa using n)
theorem Gr.set {r : Nat} {h h' : Hs} (a : Gr r h h') (w : Rw r h) {n : Nat} (o : AO) (c : h.length ≤ n) : Gr r h (h'.set n o) := ⟨a.fm.set o (.inr c), a.rw.set o (by have := w.lt; omega) (by have := w.lt; omega)⟩

theorem taken_ok {r : Nat} {h : Hs} {many : Int} {Q : QE} (w : Rw r h) (h1 : 0 < many) (h2 : many < 1073741824) (q : ∀ v h', 0 ≤ v → v < many → Gr r h h' → Q (.int v) h') : wF F_law_taken [.loc r, .int many] h Q := by
  obtain ⟨ns, pos, seed, rest, e0, er, hp, hr⟩ := w
  have i0 := items_frz e0
  have er : Ls h r _ := er
  have ir := er.i; have jr := er.l; have lr := er.lt
  have l0 := lt_of_get e0
  have key : ∀ (pos' seed' rest' : Int), 0 ≤ pos' → Gr r h (h.set r (.lst [.loc 0, .int pos', .int seed', .int rest'])) := fun pos' seed' rest' hp' => ⟨(Fm.refl _ _).set _ (.inl (by simp)), ns, pos', seed', rest', set_oth e0 hr, set_get er, hp', hr⟩
  unfold F_law_taken
  refine wF_runK ?_
  unfold S_law_taken
  by_cases c1 : 0 < rest
  · simp [ir, jr, h1, h2, ixN, lr, hr, i0, c1]
    exact q _ _ (Int.emod_nonneg _ (by omega)) (Int.emod_lt_of_pos _ h1) (key _ _ _ hp)
  by_cases c2 : (ns.length : Int) < pos + 1
  · simp [ir, jr, h1, h2, ixN, lr, hr, i0, c1, c2]
    exact q _ _ (Int.emod_nonneg _ (by omega)) (Int.emod_lt_of_pos _ h1) (key _ _ _ (by omega))
  obtain ⟨cell, hc⟩ : ∃ c, atI (ns.map D.int) pos = some (.int c) := by
    obtain ⟨k, rfl⟩ := Int.eq_ofNat_of_zero_le hp
    refine ⟨ns[k]'(by omega), ?_⟩
    rw [atI_nat, List.getElem?_map, List.getElem?_eq_getElem (by omega)]
    rfl
  simp [ir, jr, h1, h2, ixN, lr, hr, i0, c1, c2, hc]
  split
  · exact q _ _ (Int.emod_nonneg _ (by omega)) (Int.emod_lt_of_pos _ h1) (key _ _ _ (by omega))
  · exact q _ _ (Int.emod_nonneg _ (by omega)) (Int.emod_lt_of_pos _ h1) (key _ _ _ (by omega))
/-- one of these -/
theorem pick_ok {r n : Nat} {h : Hs} {xs : List D} {Q : QE} (w : Rw r h) (e : itemsAt h n = some xs) (h1 : xs ≠ []) (h2 : xs.length < 1073741824) (q : ∀ d h', d ∈ xs → Gr r h h' → Q d h') (hn : n ≠ r) : wF F_law_pick [.loc r, .loc n] h Q := by
  have hl : 0 < xs.length := List.length_pos_iff.mpr h1
  unfold F_law_pick
  refine wF_runK ?_
  unfold S_law_pick
  simp [e]
  refine taken_ok w (by omega) (by omega) fun v h' v0 v1 g => ?_
  have e' : itemsAt h' n = some xs := by
    unfold itemsAt at e ⊢
    split at e
    · rename_i ys e0; rw [g.get e0 hn]; exact e
    · rename_i ys e0; rw [g.get e0 hn]; exact e
    · cases e
  obtain ⟨k, rfl⟩ := Int.eq_ofNat_of_zero_le v0
  have hk : k < xs.length := by omega
  simp [e', List.getElem?_eq_getElem hk]
  exact q _ _ (List.getElem_mem hk) g
end MP

/-! text SP2 -/
set_option Elab.async false
set_option linter.all false
set_option maxRecDepth 100000
set_option maxHeartbeats 4000000
namespace MP
open PySem PySem.Spec PyProof.Rows
open L2 hiding St
/-! ### text -/
def cs (x : Str) : List Nat := x.cps.toList
theorem cs_app (a b : Str) : cs (a ++ b) = cs a ++ cs b := by
  show (a.cps ++ b.cps).toList = _
  simp [cs]
theorem cs_len (a : Str) : a.length = (cs a).length := by
  show a.cps.size = a.cps.toList.length
  simp
theorem cs_ext {a b : Str} (h : cs a = cs b) : a = b := by
  cases a; cases b
  simp [cs] at h
  rw [h]
theorem cs_one (c : Nat) : cs ⟨#[c]⟩ = [c] := rfl
theorem fold_app (n : Nat) (x acc : Array Nat) : ((List.replicate n x).foldl (· ++ ·) acc).toList = acc.toList ++ (List.replicate n x.toList).flatten := by
  induction n generalizing acc with
  | zero => simp
  | succ n ih =>
    rw [List.replicate_succ, List.foldl_cons, ih, List.replicate_succ, List.flatten_cons]
    simp
theorem cs_mul1 (c : Nat) (n : Int) (hn : 0 ≤ n) : cs (Txt.mul ⟨#[c]⟩ n) = List.replicate n.toNat c := by
  unfold Txt.mul
  split
  · have : n = 0 := by omega
    subst this; rfl
  · split
    · rename_i h
      have : n = 1 := by
        have h' : (n == 1 || (1 : Nat) == 0) = true := h
        simpa using h'
      subst this; rfl
    · show ((List.replicate n.toNat #[c]).foldl (· ++ ·) #[]).toList = _
      rw [fold_app]
      simp
/-- letters alone -/
def Ltr (x : Str) : Prop := ∀ c ∈ cs x, 97 ≤ c ∧ c < 123
theorem Ltr.app {a b : Str} (ha : Ltr a) (hb : Ltr b) : Ltr (a ++ b) := fun c hc => by
  rw [cs_app] at hc
  rcases List.mem_append.mp hc with h | h
  · exact ha c h
  · exact hb c h
theorem Ltr.one {c : Nat} (h : 97 ≤ c ∧ c < 123) : Ltr ⟨#[c]⟩ := fun d hd => by
  rw [cs_one] at hd
  rw [List.mem_singleton.mp hd]
  exact h
theorem Ltr.mul {c : Nat} {n : Int} (h : 97 ≤ c ∧ c < 123) (hn : 0 ≤ n) : Ltr (Txt.mul ⟨#[c]⟩ n) := fun d hd => by
  rw [cs_mul1 c n hn] at hd
  rw [(List.mem_replicate.mp hd).2]
  exact h
theorem letters_cs : cs (Str.ofString "abcdefghijklmnopqrstuvwxyz") = (List.range 26).map (· + 97) := by decide +kernel
theorem letters_len : (Str.ofString "abcdefghijklmnopqrstuvwxyz").length = 26 := by decide +kernel
theorem letters_at {v : Int} (h0 : 0 ≤ v) (h1 : v < 26) : atI (Str.ofString "abcdefghijklmnopqrstuvwxyz").cps.toList v = some (v.toNat + 97) := by
  obtain ⟨k, rfl⟩ := Int.eq_ofNat_of_zero_le h0
  have e := letters_cs
  unfold cs at e
  rw [e, atI_nat, List.getElem?_map, List.getElem?_range (by omega)]
  simp
/-- a name as the laws draw it -/
structure Nm (x : Str) : Prop where
  ltr : Ltr x
  pos : 1 ≤ x.length
  top : x.length ≤ 16
/-- the j-th sign -/
theorem sign_inj {s i j : Nat} (hi : i < 26) (hj : j < 26) (h : (s + 7 * i) % 26 = (s + 7 * j) % 26) : i = j := by omega
theorem nodup_of_at {xs : List Str} {p s : Nat} (hl : xs.length ≤ 26) (h : ∀ (j : Nat) (x : Str), xs[j]? = some x → (cs x)[p]? = some ((s + 7 * j) % 26 + 97)) : xs.Nodup := by
  rw [List.nodup_iff_pairwise_ne, List.pairwise_iff_getElem]
  intro i j hi hj hij e
  have a := h i _ (List.getElem?_eq_getElem hi)
  have b := h j _ (List.getElem?_eq_getElem hj)
  rw [e, b] at a
  have := sign_inj (s := s) (i := j) (j := i) (by omega) (by omega) (by simpa using a)
  omega
/-- the j-th name's sign stands at p -/
def signAt (p s : Nat) (xs : List Str) : Prop := ∀ (j : Nat) (x : Str), xs[j]? = some x → (cs x)[p]? = some ((s + 7 * j) % 26 + 97)
theorem signAt.snoc {p s : Nat} {xs : List Str} {x : Str} (h : signAt p s xs) (e : (cs x)[p]? = some ((s + 7 * xs.length) % 26 + 97)) : signAt p s (xs ++ [x]) := by
  intro j y hy
  by_cases hj : j < xs.length
  · rw [List.getElem?_append_left hj] at hy; exact h j y hy
  · have hl := (List.getElem?_eq_some_iff.mp hy).1
    have : j = xs.length := by simp at hl; omega
    subst this
    simp at hy
    subst hy
    exact e
theorem names_ok {r : Nat} {h : Hs} {many : Int} {Q : QE} (w : Rw r h) (hm0 : 0 ≤ many) (hm1 : many ≤ 26)
    (q : ∀ (m : Nat) (xs : List Str) (h' : Hs), Gr r h h' → h.length ≤ m → Ls h' m (xs.map D.str) → (xs.length : Int) = many → xs.Nodup → (∀ x ∈ xs, Nm x) → Q (.loc m) h') : wF F_law_names [.loc r, .int many] h Q := by
  unfold F_law_names
  refine wF_runK ?_
  unfold S_law_names
  simp
  refine taken_ok w (by omega) (by omega) fun start h1 s0 s1 g1 => ?_
  have L1 := Ls.new h1 []
  have hm : h.length ≤ h1.length := g1.fm.len
  replace g1 := g1.app [.lst []]
  generalize h1.length = m at *
  generalize h1 ++ [AO.lst []] = h1 at *
  have hmr : m ≠ r := by have := w.lt; omega
  refine taken_ok g1.rw (by omega) (by omega) fun a h2 a0 a1 g2 => ?_
  simp [letters_at a0 a1, letters_len]
  refine taken_ok g2.rw (by omega) (by omega) fun a' h3 a0' a1' g3 => ?_
  have z1 : -1000 ≤ a' := by omega
  have z2 : a' ≤ 1000 := by omega
  simp [z1, z2]
  refine taken_ok g3.rw (by omega) (by omega) fun b h4 b0 b1 g4 => ?_
  simp [letters_at b0 b1, letters_len]
  refine taken_ok g4.rw (by omega) (by omega) fun b' h5 b0' b1' g5 => ?_
  have y1 : -1000 ≤ b' := by omega
  have y2 : b' ≤ 1000 := by omega
  simp [y1, y2]
  refine taken_ok g5.rw (by omega) (by omega) fun kind h6 k0 k1 g6 => ?_
  refine ⟨by omega, ?_⟩
  obtain ⟨head, hh⟩ : ∃ x, x = Txt.mul ⟨#[a.toNat + 97]⟩ a' := ⟨_, rfl⟩
  obtain ⟨tail, ht⟩ : ∃ x, x = Txt.mul ⟨#[b.toNat + 97]⟩ b' := ⟨_, rfl⟩
  have lh : Ltr head := hh ▸ Ltr.mul (by omega) a0'
  have lt : Ltr tail := ht ▸ Ltr.mul (by omega) b0'
  have eh : head.length ≤ 3 := by rw [cs_len, hh, cs_mul1 _ _ a0']; simp; omega
  have et : tail.length ≤ 3 := by rw [cs_len, ht, cs_mul1 _ _ b0']; simp; omega
  rw [← hh, ← ht]
  have Gz : Gr r h h6 := ((((g1.trans g2).trans g3).trans g4).trans g5).trans g6
  have Lz : Ls h6 m [] := ((((L1.keep g2.fm (by simp; omega)).keep g3.fm (by simp; omega)).keep g4.fm (by simp; omega)).keep g5.fm (by simp; omega)).keep g6.fm (by simp; omega)
  obtain ⟨I, hI⟩ : ∃ I : Nat → Rho → Hs → Prop, ∀ i ρ hx, I i ρ hx ↔ ∃ o6 o9 xs, ρ = [some (.loc r), some (.int many), some (.str "abcdefghijklmnopqrstuvwxyz"), some (.str head), some (.str tail), some (.int kind), o6, some (.int start), some (.loc m), o9] ∧ Gr r h hx ∧ Ls hx m (xs.map D.str) ∧ xs.length = i ∧ (∀ x ∈ xs, Nm x) ∧ signAt (if kind = 0 then head.length else 0) start.toNat xs := ⟨_, fun _ _ _ => Iff.rfl⟩
  refine wFor_inv I ((hI _ _ _).mpr ⟨none, none, [], rfl, Gz, Lz, rfl, by simp, fun j x z => by simp at z⟩) (fun i x ρ hx hi Ii => ?_) (fun ρ hx Ii => ?_)
  · obtain ⟨o6, o9, xs, e, G, L, hl, hN, hS⟩ := (hI _ _ _).mp Ii
    subst e
    obtain ⟨hi1, rfl⟩ := rangeD_at hi
    have v0 : 0 ≤ (start + 7 * (i : Int)) % 26 := Int.emod_nonneg _ (by omega)
    have v1 : (start + 7 * (i : Int)) % 26 < 26 := Int.emod_lt_of_pos _ (by omega)
    have sg : ((start + 7 * (i : Int)) % 26).toNat = (start.toNat + 7 * i) % 26 := by omega
    have L1 := L.l; have L2 := L.lt
    have q4 : xs.length < 16777216 := by omega
    simp [letters_at v0 v1, letters_len, L2, sg]
    have next : ∀ (x : Str) (hy : Hs) (o6 o9 : Option D), Gr r h hy → Ls hy m (xs.map D.str) → Nm x → (cs x)[if kind = 0 then head.length else 0]? = some ((start.toNat + 7 * i) % 26 + 97) → I (i + 1) [some (.loc r), some (.int many), some (.str "abcdefghijklmnopqrstuvwxyz"), some (.str head), some (.str tail), some (.int kind), o6, some (.int start), some (.loc m), o9] (hy.set m (.lst (xs.map D.str ++ [.str x]))) := by
      intro x hy o6 o9 G L hx e
      refine (hI _ _ _).mpr ⟨o6, o9, xs ++ [x], rfl, G.set w _ hm, by simpa using L.set (xs.map D.str ++ [.str x]), by simp [hl], fun y hy => ?_, ?_⟩
      · rcases List.mem_append.mp hy with hy | hy
        · exact hN y hy
        · rw [List.mem_singleton.mp hy]
          exact hx
      · refine hS.snoc ?_
        rw [hl]
        exact e
    by_cases hk : kind = 0
    · subst hk
      have q1 : head.length ≤ 16777215 := by omega
      have q2 : (head ++ Str.mk #[(start.toNat + 7 * i) % 26 + 97]).length = head.length + 1 := by rw [cs_len, cs_app, cs_one, cs_len head]; simp
      have q3 : head.length + 1 + tail.length ≤ 16777216 := by omega
      simp [q1, q2, q3, L1, q4]
      refine next _ _ _ _ G L ⟨(lh.app (Ltr.one (c := (start.toNat + 7 * i) % 26 + 97) (by omega))).app lt, ?_, ?_⟩ ?_
      · rw [cs_len, cs_app, cs_app, cs_one]; simp; omega
      · rw [cs_len, cs_app, cs_app, cs_one]; rw [cs_len] at eh et; simp; omega
      · rw [if_pos rfl, cs_app, cs_app, cs_one, cs_len]
        simp
    · simp [hk]
      refine taken_ok G.rw (by omega) (by omega) fun c hy c0 c1 gy => ?_
      simp [letters_at c0 c1, letters_len]
      refine taken_ok gy.rw (by omega) (by omega) fun c' hz c0' c1' gz => ?_
      have u1 : -1000 ≤ c' := by omega
      have u2 : c' ≤ 1000 := by omega
      have u3 : (Txt.mul (Str.mk #[c.toNat + 97]) c').length = c'.toNat := by rw [cs_len, cs_mul1 _ _ c0']; simp
      have u4 : 1 + c'.toNat ≤ 16777216 := by omega
      have Ly := (L.keep gy.fm (by simp; omega)).keep gz.fm (by simp; omega)
      simp [u1, u2, u3, u4, Ly.l, q4]
      refine next _ _ _ _ ((G.trans gy).trans gz) Ly ⟨(Ltr.one (c := (start.toNat + 7 * i) % 26 + 97) (by omega)).app (Ltr.mul (by omega) c0'), ?_, ?_⟩ ?_
      · rw [cs_len, cs_app, cs_one]; simp
      · rw [cs_len, cs_app, cs_one, cs_mul1 _ _ c0']; simp; omega
      · rw [if_neg hk, cs_app, cs_one]; simp
  · obtain ⟨o6, o9, xs, e, G, L, hl, hN, hS⟩ := (hI _ _ _).mp Ii
    subst e
    rw [rangeD_len] at hl
    simp
    exact q m xs hx G hm L (by omega) (nodup_of_at (by omega) hS) hN
end MP

/-! text SP3 -/
set_option Elab.async false
set_option linter.all false
set_option maxRecDepth 100000
set_option maxHeartbeats 4000000
namespace MP
open PySem PySem.Spec PyProof.Rows
open L2 hiding St
/-! ### what is drawn, as data -/
structure Stn where
  name : Str
  room : Int
  life : Int
  change : Int
  repair : Int
def Stn.d (x : Stn) : D := .tup [.str x.name, .int x.room, .int x.life, .int x.change, .int x.repair]
structure Stp1 where
  at_ : Str
  work : Int
  back : Option Nat
def optN : Option Nat → D
  | none => .non
  | some n => .int n
def Stp1.d (x : Stp1) : D := .tup [.str x.at_, .int x.work, optN x.back]
structure Route where
  name : Str
  steps : List Stp1
def Route.d (x : Route) : D := .tup [.str x.name, .tup (x.steps.map Stp1.d)]
structure Order where
  phase : Int
  kind : Str
  lead : Int
def Order.d (x : Order) : D := .tup [.int x.phase, .str x.kind, .int x.lead]
structure Setup where
  at_ : Str
  one : Str
  other : Str
  cost : Int
def Setup.d (x : Setup) : D := .tup [.str x.at_, .str x.one, .str x.other, .int x.cost]
structure Pl where
  rows : List Stn
  routes : List Route
  period : Int
  orders : List Order
  setups : List Setup
  often : Int
  apart : Int
  most : Int
def Pl.d (p : Pl) : D := .tup [.tup (p.rows.map Stn.d), .tup (p.routes.map Route.d), .int p.period, .tup (p.orders.map Order.d), .tup (p.setups.map Setup.d), .tup [.int p.often, .int p.apart], .int p.most]

theorem pickN_ok {r : Nat} {h : Hs} (is : List Int) (lo hi : Int) {Q : QE} (w : Rw r h) (h1 : is ≠ []) (h2 : is.length < 1000) (hb : ∀ i ∈ is, lo ≤ i ∧ i ≤ hi) (q : ∀ i h', i ∈ is → lo ≤ i → i ≤ hi → Gr r h h' → Q (.int i) h') : wF F_law_pick [.loc r, .loc h.length] (h ++ [.lst (is.map D.int)]) Q := by
  refine pick_ok (w.app _) (Ls.new h _).i (by simpa using h1) (by simp; omega) (fun d h' hd g => ?_) (by have := w.lt; omega)
  obtain ⟨i, hi', rfl⟩ := List.mem_map.mp hd
  obtain ⟨a, b⟩ := hb i hi'
  exact q i h' hi' a b (((Gr.refl w).app _).trans g)
/-- a drawn station -/
structure StnOk (x : Stn) : Prop where
  room : 1 ≤ x.room ∧ x.room ≤ 4
  life : 0 ≤ x.life ∧ x.life ≤ 6
  change : 0 ≤ x.change ∧ x.change ≤ 3
  repair : 1 ≤ x.repair ∧ x.repair ≤ 4
theorem station_ok {r : Nat} {h : Hs} {name : Str} {Q : QE} (w : Rw r h) (q : ∀ (x : Stn) h', x.name = name → StnOk x → Gr r h h' → Q x.d h') : wF F_law_station [.loc r, .str name] h Q := by
  unfold F_law_station
  refine wF_runK ?_
  unfold S_law_station
  simp
  refine pickN_ok [0, 0, 0, 4, 5, 6] 0 6 w (by decide) (by decide) (by decide) fun life h1 _ l0 l1 g1 => ?_
  refine pickN_ok [1, 1, 2, 3, 4] 1 4 g1.rw (by decide) (by decide) (by decide) fun room h2 _ r0 r1 g2 => ?_
  simp
  split
  · refine pickN_ok [0, 1, 2, 3] 0 3 g2.rw (by decide) (by decide) (by decide) fun change h3 _ c0 c1 g3 => ?_
    refine taken_ok g3.rw (by omega) (by omega) fun v h4 v0 v1 g4 => ?_
    simp
    exact q ⟨name, room, life, change, 1 + v⟩ h4 rfl ⟨⟨r0, r1⟩, ⟨l0, l1⟩, ⟨c0, c1⟩, by simp; omega⟩ (((g1.trans g2).trans g3).trans g4)
  · refine taken_ok g2.rw (by omega) (by omega) fun v h4 v0 v1 g4 => ?_
    simp
    exact q ⟨name, room, life, 0, 1 + v⟩ h4 rfl ⟨⟨r0, r1⟩, ⟨l0, l1⟩, by simp, by simp; omega⟩ ((g1.trans g2).trans g4)
/-- drawn steps -/
structure StepOk (names : List Str) (k : Nat) (x : Stp1) : Prop where
  at_ : x.at_ ∈ names
  work : 1 ≤ x.work ∧ x.work ≤ 4
  back : ∀ b, x.back = some b → b ≤ k
theorem steps_ok {r m : Nat} {h : Hs} {names : List Str} {most : Int} {Q : QE} (w : Rw r h) (L : Ls h m (names.map D.str)) (hm : m ≠ r) (hn : names ≠ []) (hn2 : names.length < 1000) (m0 : 0 < most) (m1 : most ≤ 100)
    (q : ∀ (xs : List Stp1) h', 1 ≤ xs.length → (xs.length : Int) ≤ most → (∀ (k : Nat) x, xs[k]? = some x → StepOk names k x) → Gr r h h' → Q (.tup (xs.map Stp1.d)) h') : wF F_law_steps [.loc r, .loc m, .int most] h Q := by
  unfold F_law_steps
  refine wF_runK ?_
  unfold S_law_steps
  simp
  have hmz : m ≠ h.length := by have := L.lt; omega
  have G0 : Gr r h (h ++ [.lst []]) := (Gr.refl w).app _
  have L0 := Ls.new h []
  refine taken_ok G0.rw (by omega) (by omega) fun n h1 n0 n1 g1 => ?_
  have hr := w.lt
  simp
  refine ⟨by omega, ?_⟩
  obtain ⟨I, hI⟩ : ∃ I : Nat → Rho → Hs → Prop, ∀ i ρ hx, I i ρ hx ↔ ∃ o4 o5, ∃ xs : List Stp1, ρ = [some (.loc r), some (.loc m), some (.int most), some (.loc h.length), o4, o5] ∧ Gr r h hx ∧ Ls hx h.length (xs.map Stp1.d) ∧ xs.length = i ∧ (∀ (k : Nat) x, xs[k]? = some x → StepOk names k x) := ⟨_, fun _ _ _ => Iff.rfl⟩
  refine wFor_inv I ((hI _ _ _).mpr ⟨none, none, [], rfl, G0.trans g1, L0.keep g1.fm (by simp; omega), rfl, by simp⟩) (fun i x ρ hx hi Ii => ?_) (fun ρ hx Ii => ?_)
  · obtain ⟨o4, o5, xs, e, G, Lx, hl, hS⟩ := (hI _ _ _).mp Ii
    subst e
    obtain ⟨hi1, rfl⟩ := rangeD_at hi
    simp
    have next : ∀ (b : Option Nat) (hy : Hs) (o4 : Option D), Gr r h hy → Ls hy h.length (xs.map Stp1.d) → (∀ c, b = some c → c ≤ i) →
        wF F_law_pick [D.loc r, D.loc m] hy fun x h1 => wF F_law_pick [D.loc r, D.loc h1.length] (h1 ++ [AO.lst [D.int 2, D.int 2, D.int 4]]) fun x_1 h2 => wF F_law_taken [D.loc r, x_1] h2 fun y h2 => wO (addD (D.int 1) y h2) fun x_2 h2 =>
          wO (match lstAt h2 h.length with
            | some xs => if xs.length < 16777216 then some (D.non, List.set h2 h.length (AO.lst (xs ++ [D.tup [x, x_2, optN b]]))) else none
            | none => none) fun x h1 => I (i + 1) [some (D.loc r), some (D.loc m), some (D.int most), some (D.loc h.length), o4, some (optN b)] h1 := by
      intro b hy o4 Gy Ly hb
      refine pick_ok Gy.rw ((L.keep Gy.fm (by simpa using hm)).i) (by simpa using hn) (by simp; omega) (fun d h2 hd g2 => ?_) hm
      obtain ⟨nm, hnm, rfl⟩ := List.mem_map.mp hd
      refine pickN_ok [2, 2, 4] 2 4 g2.rw (by decide) (by decide) (by decide) fun wk h3 _ w0 w1 g3 => ?_
      refine taken_ok g3.rw (by omega) (by omega) fun wv h4 v0 v1 g4 => ?_
      have Lz := ((Ly.keep g2.fm (by simp; omega)).keep g3.fm (by simp; omega)).keep g4.fm (by simp; omega)
      have q4 : xs.length < 16777216 := by omega
      simp [Lz.l, q4]
      refine (hI _ _ _).mpr ⟨_, _, xs ++ [⟨nm, 1 + wv, b⟩], rfl, (((Gy.trans g2).trans g3).trans g4).set w _ (Nat.le_refl _), by simpa [Stp1.d] using Lz.set (xs.map Stp1.d ++ [.tup [.str nm, .int (1 + wv), optN b]]), by simp [hl], fun k x hk => ?_⟩
      by_cases hkl : k < xs.length
      · rw [List.getElem?_append_left hkl] at hk; exact hS k x hk
      · have hl2 := (List.getElem?_eq_some_iff.mp hk).1
        have : k = xs.length := by simp at hl2; omega
        subst this
        simp at hk
        subst hk
        exact ⟨hnm, by simp; omega, fun c hc => by rw [hl]; exact hb c hc⟩
    refine taken_ok G.rw (by omega) (by omega) fun u hy u0 u1 gy => ?_
    have Ly := Lx.keep gy.fm (by simp; omega)
    simp
    split
    · refine taken_ok gy.rw (by omega) (by omega) fun v hz v0 v1 gz => ?_
      obtain ⟨b, rfl⟩ := Int.eq_ofNat_of_zero_le v0
      have Lz := Ly.keep gz.fm (by simp; omega)
      exact ⟨isLst_of Lz, next (some b) hz _ ((G.trans gy).trans gz) Lz fun c hc => by cases hc; omega⟩
    · exact ⟨isLst_of Ly, next none hy _ (G.trans gy) Ly fun c hc => by cases hc⟩
  · obtain ⟨o4, o5, xs, e, G, Lx, hl, hS⟩ := (hI _ _ _).mp Ii
    subst e
    rw [rangeD_len] at hl
    simp [Lx.i]
    exact q xs hx (by omega) (by omega) hS G
end MP

/-! text SP4 -/
set_option Elab.async false
set_option linter.all false
set_option maxRecDepth 100000
set_option maxHeartbeats 4000000
namespace MP
open PySem PySem.Spec PyProof.Rows
open L2 hiding St
/-- a drawn setup -/
structure SetupOk (names kinds : List Str) (x : Setup) : Prop where
  at_ : x.at_ ∈ names
  one : x.one ∈ kinds
  other : x.other ∈ kinds
  cost : 1 ≤ x.cost ∧ x.cost ≤ 3
theorem setups_ok {r m n : Nat} {h : Hs} {names kinds : List Str} {Q : QE} (w : Rw r h) (L : Ls h m (names.map D.str)) (M : Ls h n (kinds.map D.str)) (hm : m ≠ r) (hn : n ≠ r) (l1 : names.length < 64) (l2 : kinds.length < 64)
    (q : ∀ (xs : List Setup) h', xs.length ≤ 20 → (∀ x ∈ xs, SetupOk names kinds x) → Gr r h h' → Q (.tup (xs.map Setup.d)) h') : wF F_law_setups [.loc r, .loc m, .loc n] h Q := by
  unfold F_law_setups
  refine wF_runK ?_
  unfold S_law_setups
  simp
  have hr := w.lt
  have lm := L.lt
  have ln := M.lt
  have G0 : Gr r h (h ++ [.lst []]) := (Gr.refl w).app _
  have L0 := Ls.new h []
  have hlt := L0.lt
  replace L := L.app [.lst []]; replace M := M.app [.lst []]
  generalize ef : h.length = f at *
  generalize h ++ [AO.lst []] = h0 at *
  -- what is known all along: the drawer, what is found, lists that stay
  obtain ⟨I, hI⟩ : ∃ I : List (Nat × List D) → Hs → Nat → Prop, ∀ A hx b, I A hx b ↔ ∃ xs : List Setup, Gr r h hx ∧ Ls hx f (xs.map Setup.d) ∧ xs.length ≤ b ∧ (∀ x ∈ xs, SetupOk names kinds x) ∧ ∀ p ∈ A, Ls hx p.1 p.2 ∧ p.1 ≠ r ∧ p.1 ≠ f := ⟨_, fun _ _ _ => Iff.rfl⟩
  refine wsort_strs L.i l1 fun h1 f1 S1 => ?_
  simp [S1.i]
  have I1 : I [(n, kinds.map D.str), (h0.length, (sortS names).map D.str)] h1 0 := (hI _ _ _).mpr ⟨[], G0.keep f1, L0.keep0 f1, by simp, by simp, fun p hp => by
    simp at hp
    rcases hp with rfl | rfl
    · exact ⟨M.keep0 f1, hn, by simp; omega⟩
    · exact ⟨S1, by simp; omega, by simp; omega⟩⟩
  generalize h0.length = k1 at *
  obtain ⟨J, hJ⟩ : ∃ J : Nat → Rho → Hs → Prop, ∀ i ρ hx, J i ρ hx ↔ ∃ o4 o5 o6, ρ = [some (.loc r), some (.loc m), some (.loc n), some (.loc f), o4, o5, o6] ∧ I [(n, kinds.map D.str), (k1, (sortS names).map D.str)] hx (i * 10000) := ⟨_, fun _ _ _ => Iff.rfl⟩
  refine wFor_inv J ((hJ _ _ _).mpr ⟨none, none, none, rfl, I1⟩) (fun i x ρ hx hi Ji => ?_) (fun ρ hx Ji => ?_)
  · obtain ⟨o4, o5, o6, e, Ii⟩ := (hJ _ _ _).mp Ji
    subst e
    obtain ⟨xs, G, Lx, hl, hS, hA⟩ := (hI _ _ _).mp Ii
    have A1 := hA (n, kinds.map D.str) (by simp)
    have A2 := hA (k1, (sortS names).map D.str) (by simp)
    simp only at A1 A2
    obtain ⟨at_, hat, rfl⟩ := List.mem_map.mp (List.mem_of_getElem? hi)
    rw [sortS_mem] at hat
    have hix : i < names.length := by have := (List.getElem?_eq_some_iff.mp hi).1; rwa [List.length_map, sortS_len] at this
    simp
    refine ⟨A2.1.i, wsort_strs A1.1.i l2 fun h2 f2 S2 => ?_⟩
    have hk2 : k1 ≠ hx.length ∧ n ≠ hx.length := ⟨by have := A2.1.lt; omega, by have := A1.1.lt; omega⟩
    have hk3 : hx.length ≠ r ∧ hx.length ≠ f := ⟨by have := G.rw.lt; omega, by have := Lx.lt; omega⟩
    generalize hx.length = k2 at *
    obtain ⟨A, hAe⟩ : ∃ A : List (Nat × List D), A = [(n, kinds.map D.str), (k1, (sortS names).map D.str), (k2, (sortS kinds).map D.str)] := ⟨_, rfl⟩
    have I2 : I A h2 (i * 10000) := (hI _ _ _).mpr ⟨xs, G.keep f2, Lx.keep0 f2, hl, hS, fun p hp => by
      subst hAe
      simp at hp
      rcases hp with rfl | rfl | rfl
      · exact ⟨A1.1.keep0 f2, A1.2⟩
      · exact ⟨A2.1.keep0 f2, A2.2⟩
      · exact ⟨S2, hk3⟩⟩
    simp [S2.i]
    obtain ⟨J2, hJ2⟩ : ∃ J : Nat → Rho → Hs → Prop, ∀ j ρ hx, J j ρ hx ↔ ∃ o5 o6, ρ = [some (.loc r), some (.loc m), some (.loc n), some (.loc f), some (.str at_), o5, o6] ∧ I A hx (i * 10000 + j * 100) := ⟨_, fun _ _ _ => Iff.rfl⟩
    refine wFor_inv J2 ((hJ2 _ _ _).mpr ⟨o5, o6, rfl, by simpa using I2⟩) (fun j y ρ hy hj Jj => ?_) (fun ρ hy Jj => ?_)
    · obtain ⟨o5, o6, e, Ij⟩ := (hJ2 _ _ _).mp Jj
      subst e
      obtain ⟨xs, G, Lx, hl, hS, hA⟩ := (hI _ _ _).mp Ij
      have A1 := hA (n, kinds.map D.str) (by simp [hAe])
      have A3 := hA (k2, (sortS kinds).map D.str) (by simp [hAe])
      simp only at A1 A3
      obtain ⟨one, hon, rfl⟩ := List.mem_map.mp (List.mem_of_getElem? hj)
      rw [sortS_mem] at hon
      have hjx : j < kinds.length := by have := (List.getElem?_eq_some_iff.mp hj).1; rwa [List.length_map, sortS_len] at this
      simp
      refine ⟨A3.1.i, wsort_strs A1.1.i l2 fun h3 f3 S3 => ?_⟩
      have hk4 : hy.length ≠ r ∧ hy.length ≠ f := ⟨by have := G.rw.lt; omega, by have := Lx.lt; omega⟩
      generalize hy.length = k3 at *
      obtain ⟨B, hBe⟩ : ∃ B : List (Nat × List D), B = A ++ [(k3, (sortS kinds).map D.str)] := ⟨_, rfl⟩
      have I3 : I B h3 (i * 10000 + j * 100) := (hI _ _ _).mpr ⟨xs, G.keep f3, Lx.keep0 f3, hl, hS, fun p hp => by
        subst hBe
        rcases List.mem_append.mp hp with hp | hp
        · have := hA p hp
          exact ⟨this.1.keep0 f3, this.2⟩
        · rw [List.mem_singleton.mp hp]
          exact ⟨S3, hk4⟩⟩
      simp [S3.i]
      obtain ⟨J3, hJ3⟩ : ∃ J : Nat → Rho → Hs → Prop, ∀ k ρ hx, J k ρ hx ↔ ∃ o6, ρ = [some (.loc r), some (.loc m), some (.loc n), some (.loc f), some (.str at_), some (.str one), o6] ∧ I B hx (i * 10000 + j * 100 + k) := ⟨_, fun _ _ _ => Iff.rfl⟩
      refine wFor_inv J3 ((hJ3 _ _ _).mpr ⟨o6, rfl, by simpa using I3⟩) (fun k z ρ hz hk Jk => ?_) (fun ρ hz Jk => ?_)
      · obtain ⟨o6, e, Ik⟩ := (hJ3 _ _ _).mp Jk
        subst e
        obtain ⟨xs, G, Lx, hl, hS, hA⟩ := (hI _ _ _).mp Ik
        have A4 := hA (k3, (sortS kinds).map D.str) (by simp [hBe])
        simp only at A4
        obtain ⟨other, hot, rfl⟩ := List.mem_map.mp (List.mem_of_getElem? hk)
        rw [sortS_mem] at hot
        have hkx : k < kinds.length := by have := (List.getElem?_eq_some_iff.mp hk).1; rwa [List.length_map, sortS_len] at this
        have stay : ∀ (hq : Hs), Gr r hz hq → Ls hq f (xs.map Setup.d) → J3 (k + 1) [some (.loc r), some (.loc m), some (.loc n), some (.loc f), some (.str at_), some (.str one), some (.str other)] hq := fun hq Gq Lq =>
          (hJ3 _ _ _).mpr ⟨_, rfl, (hI _ _ _).mpr ⟨xs, G.trans Gq, Lq, by omega, hS, fun p hp => by
            have := hA p hp
            exact ⟨this.1.keep Gq.fm (by simpa using this.2.1), this.2⟩⟩⟩
        simp
        refine ⟨A4.1.i, ?_⟩
        split
        · exact stay hz (Gr.refl G.rw) Lx
        · refine taken_ok G.rw (by omega) (by omega) fun u h4 u0 u1 g4 => ?_
          have L4 := Lx.keep g4.fm (by simp; omega)
          simp
          split
          · refine ⟨isLst_of L4, taken_ok g4.rw (by omega) (by omega) fun v h5 v0 v1 g5 => ?_⟩
            have L5 := L4.keep g5.fm (by simp; omega)
            have q4 : xs.length < 16777216 := by omega
            simp [L5.l, q4]
            refine (hJ3 _ _ _).mpr ⟨_, rfl, (hI _ _ _).mpr ⟨xs ++ [⟨at_, one, other, 1 + v⟩], ((G.trans g4).trans g5).set w _ (by omega), by simpa [Setup.d] using L5.set (xs.map Setup.d ++ [.tup [.str at_, .str one, .str other, .int (1 + v)]]), by simp; omega, fun x hx => ?_, fun p hp => ?_⟩⟩
            · rcases List.mem_append.mp hx with hx | hx
              · exact hS x hx
              · rw [List.mem_singleton.mp hx]
                exact ⟨hat, hon, hot, by simp; omega⟩
            · have := hA p hp
              exact ⟨((this.1.keep g4.fm (by simpa using this.2.1)).keep g5.fm (by simpa using this.2.1)).oth (by omega), this.2⟩
          · exact stay h4 g4 L4
      · obtain ⟨o6, e, Ik⟩ := (hJ3 _ _ _).mp Jk
        subst e
        obtain ⟨xs, G, Lx, hl, hS, hA⟩ := (hI _ _ _).mp Ik
        have A4 := hA (k3, (sortS kinds).map D.str) (by simp [hBe])
        simp
        rw [List.length_map, sortS_len] at hl
        exact ⟨A4.1.i, (hJ2 _ _ _).mpr ⟨_, _, rfl, (hI _ _ _).mpr ⟨xs, G, Lx, by omega, hS, fun p hp => hA p (by simp [hBe, hp])⟩⟩⟩
    · obtain ⟨o5, o6, e, Ij⟩ := (hJ2 _ _ _).mp Jj
      subst e
      obtain ⟨xs, G, Lx, hl, hS, hA⟩ := (hI _ _ _).mp Ij
      have A3 := hA (k2, (sortS kinds).map D.str) (by simp [hAe])
      simp
      rw [List.length_map, sortS_len] at hl
      exact ⟨A3.1.i, (hJ _ _ _).mpr ⟨_, _, _, rfl, (hI _ _ _).mpr ⟨xs, G, Lx, by omega, hS, fun p hp => hA p (by
        subst hAe
        simp at hp ⊢
        rcases hp with rfl | rfl <;> simp)⟩⟩⟩
  · obtain ⟨o4, o5, o6, e, Ii⟩ := (hJ _ _ _).mp Ji
    subst e
    obtain ⟨xs, G, Lx, hl, hS, hA⟩ := (hI _ _ _).mp Ii
    have A2 := (hA (k1, (sortS names).map D.str) (by simp)).1
    simp [Lx.i, A2.i]
    rw [← List.map_take]
    exact q _ _ (by simp; omega) (fun x hx => hS x (List.mem_of_mem_take hx)) (G.app _)
end MP

/-! text SP5 -/
set_option Elab.async false
set_option linter.all false
set_option maxRecDepth 100000
set_option maxHeartbeats 4000000
namespace MP
open PySem PySem.Spec PyProof.Rows
open L2 hiding St
/-! ### a drawn plan -/
structure RouteOk (names : List Str) (x : Route) : Prop where
  nm : Nm x.name
  ne : x.steps ≠ []
  len : x.steps.length ≤ 100
  ok : ∀ (k : Nat) (y : Stp1), x.steps[k]? = some y → StepOk names k y
structure OrderOk (period : Int) (kinds : List Str) (x : Order) : Prop where
  phase : 0 ≤ x.phase ∧ x.phase < period
  kind : x.kind ∈ kinds
  lead : 1 ≤ x.lead ∧ x.lead ≤ 100
structure PlOk (p : Pl) : Prop where
  ne : p.rows ≠ []
  len : p.rows.length ≤ 26
  nd : (p.rows.map Stn.name).Nodup
  row : ∀ x ∈ p.rows, StnOk x ∧ Nm x.name
  kne : p.routes ≠ []
  klen : p.routes.length ≤ 26
  knd : (p.routes.map Route.name).Nodup
  route : ∀ x ∈ p.routes, RouteOk (p.rows.map Stn.name) x
  period : 2 ≤ p.period ∧ p.period ≤ 5
  olen : p.orders.length ≤ 100
  order : ∀ x ∈ p.orders, OrderOk p.period (p.routes.map Route.name) x
  slen : p.setups.length ≤ 20
  setup : ∀ x ∈ p.setups, SetupOk (p.rows.map Stn.name) (p.routes.map Route.name) x
  often : 0 ≤ p.often ∧ p.often ≤ 3
  apart : 1 ≤ p.apart ∧ p.apart ≤ 8
  most : 0 ≤ p.most ∧ p.most ≤ 3
/-- a drawn list: each thing by the draw of one item -/
theorem wLc_draw {α β : Type} {enc : β → D} {dec : α → D} {P : α → β → Prop} {r : Nat} {gd : Gd} {g : GM} {me : EM} {ρ0 : Rho} {as : List α} {h : Hs} {Q : Hs → Prop} (w : Rw r h) (hs : as.length < sizeLine) (hgd : ∀ h', Gr r h h' → gOk gd h')
    (step : ∀ (a : α) (h1 : Hs), a ∈ as → Gr r h h1 → wG g (dec a) ρ0 h1 (fun ρ1 h2 => Gr r h1 h2 ∧ wE me ρ1 h2 (fun y h3 => ∃ b, y = enc b ∧ P a b ∧ Gr r h2 h3)))
    (fin : ∀ (bs : List β) h', Gr r h h' → Ls h' h.length (bs.map enc) → bs.length = as.length → (∀ (i : Nat) a b, as[i]? = some a → bs[i]? = some b → P a b) → Q h') : wLc gd g bYes me ρ0 h.length (as.map dec) (h ++ [.lst []]) Q := by
  have hlt := w.lt
  refine wLc_inv (fun i acc h1 => ∃ bs : List β, Gr r h h1 ∧ acc = bs.map enc ∧ bs.length = i ∧ ∀ (j : Nat) a b, as[j]? = some a → bs[j]? = some b → P a b) (app_new h _) (by simpa using hs) ⟨[], (Gr.refl w).app _, rfl, rfl, by simp⟩ (fun i acc h1 ⟨bs, hi, _⟩ _ => hgd _ hi) (fun i x acc h1 hx ⟨bs, hi, ha, hl, hp⟩ he _ => ?_) (fun acc h1 ⟨bs, hi, ha, hl, hp⟩ he => ?_)
  · rw [List.getElem?_map] at hx
    cases ea : as[i]? with
    | none => rw [ea] at hx; cases hx
    | some a =>
      rw [ea] at hx
      cases hx
      refine (step a h1 (List.mem_of_getElem? ea) hi).imp fun ρ1 h2 ⟨F2, ws⟩ => ?_
      rw [wB_Yes, if_pos rfl]
      refine ws.imp fun y h3 ⟨b, ey, pb, F3⟩ => ?_
      have G3 := (hi.trans F2).trans F3
      refine ⟨F3.get (F2.get he (by omega)) (by omega), bs ++ [b], ?_, by rw [ha, ey]; simp, by simp [hl], fun j a' b' ja jb => ?_⟩
      · exact G3.set w _ (Nat.le_refl _)
      · by_cases hj : j < bs.length
        · rw [List.getElem?_append_left hj] at jb; exact hp j a' b' ja jb
        · have hl2 := (List.getElem?_eq_some_iff.mp jb).1
          have : j = bs.length := by simp at hl2; omega
          subst this
          simp at jb
          subst jb
          rw [hl, ea] at ja
          cases ja
          exact pb
  · subst ha
    rw [List.length_map] at hl
    exact fin bs h1 hi he hl hp
theorem orders_ok {r mk : Nat} {h : Hs} {kinds : List Str} {period leads many : Int} {ρ0 : Rho} {Q : Hs → Prop} (w : Rw r h) (M : Ls h mk (kinds.map D.str)) (hmk : mk ≠ r) (hk : kinds ≠ []) (hkl : kinds.length < 1000) (hp : 1 ≤ period ∧ period ≤ 100) (hl : 1 ≤ leads ∧ leads ≤ 99) (hm : 0 ≤ many ∧ many ≤ 50)
    {i0 i2 i3 i8 i12 : Nat} (e0 : ρ0[i0]? = some (some (.loc r))) (e2 : ρ0[i2]? = some (some (.loc mk))) (e3 : ρ0[i3]? = some (some (.int period))) (e8 : ρ0[i8]? = some (some (.int leads))) (n0 : i12 ≠ i0) (n2 : i12 ≠ i2) (n3 : i12 ≠ i3) (n8 : i12 ≠ i8)
    (fin : ∀ (os : List Order) h', Gr r h h' → Ls h' h.length (os.map Order.d) → (os.length : Int) = many → (∀ o ∈ os, 0 ≤ o.phase ∧ o.phase < period ∧ o.kind ∈ kinds ∧ 1 ≤ o.lead ∧ o.lead ≤ leads) → Q h') :
    wLc none (gVar i12) bYes (mTup (aCons (mCallF 2 F_law_taken (aCons (mVar i0) (aCons (mVar i3) aNil))) (aCons (mCallF 2 F_law_pick (aCons (mVar i0) (aCons (mVar i2) aNil))) (aCons (mOp2 addD (mC (.int 1)) (mCallF 2 F_law_taken (aCons (mVar i0) (aCons (mVar i8) aNil)))) aNil)))) ρ0 h.length (rangeD 0 1 many.toNat) (h ++ [.lst []]) Q := by
  unfold rangeD
  refine wLc_draw (P := fun (_ : Nat) (o : Order) => 0 ≤ o.phase ∧ o.phase < period ∧ o.kind ∈ kinds ∧ 1 ≤ o.lead ∧ o.lead ≤ leads) (enc := Order.d) w (by simp; omega) (fun h' g => trivial) (fun x h1 hx g1 => ?_) (fun os h' g L hl hp => fin os h' g L (by simp at hl; omega) fun o ho => ?_)
  · simp
    refine ⟨Gr.refl g1.rw, ?_⟩
    rw [List.getElem?_set_ne n0, e0, List.getElem?_set_ne n2, e2, List.getElem?_set_ne n3, e3, List.getElem?_set_ne n8, e8]
    simp
    refine taken_ok g1.rw (by omega) (by omega) fun ph h2 p0 p1 g2 => ?_
    refine pick_ok g2.rw ((M.keep g1.fm (by simpa using hmk)).keep g2.fm (by simpa using hmk)).i (by simpa using hk) (by simp; omega) (fun d h3 hd g3 => ?_) hmk
    obtain ⟨kd, hkd, rfl⟩ := List.mem_map.mp hd
    refine taken_ok g3.rw (by omega) (by omega) fun ld h4 l0 l1 g4 => ?_
    simp
    exact ⟨⟨ph, kd, 1 + ld⟩, rfl, ⟨p0, p1, hkd, by simp; omega, by simp; omega⟩, (g2.trans g3).trans g4⟩
  · obtain ⟨i, hi⟩ := List.getElem?_of_mem ho
    have hi' := (List.getElem?_eq_some_iff.mp hi).1
    exact hp i i o (by rw [List.getElem?_range (by simp at hl; omega)]) hi
theorem small_ok {r : Nat} {h : Hs} {Q : QE} (w : Rw r h) (q : ∀ (p : Pl) h', PlOk p → Gr r h h' → Q p.d h') : wF F_law_small [.loc r] h Q := by
  unfold F_law_small
  refine wF_runK ?_
  unfold S_law_small
  simp
  refine pickN_ok [1, 2, 2, 2, 3] 1 3 w (by decide) (by decide) (by decide) fun n1 h1 _ a1 b1 g1 => ?_
  refine names_ok g1.rw (by omega) (by omega) fun m names h2 g2 em L hnl hnd hnm => ?_
  refine pickN_ok [1, 1, 2, 2] 1 2 g2.rw (by decide) (by decide) (by decide) fun n2 h3 _ a2 b2 g3 => ?_
  refine names_ok g3.rw (by omega) (by omega) fun mk kinds h4 g4 emk M hkl hknd hknm => ?_
  refine pickN_ok [2, 3, 3, 4, 5] 2 5 g4.rw (by decide) (by decide) (by decide) fun period h5 _ a3 b3 g5 => ?_
  have hm : m ≠ r := by have := g1.rw.lt; omega
  have hmk : mk ≠ r := by have := g3.rw.lt; omega
  replace L := ((L.keep g3.fm (by simpa using hm)).keep g4.fm (by simpa using hm)).keep g5.fm (by simpa using hm)
  replace M := M.keep g5.fm (by simpa using hmk)
  have G := (((g1.trans g2).trans g3).trans g4).trans g5
  simp [L.i]
  refine wLc_draw (P := fun (nm : Str) (x : Stn) => x.name = nm ∧ StnOk x) (enc := Stn.d) G.rw (by simp; omega) (fun h' g => (L.keep g.fm (by simpa using hm)).i) (fun nm h6 hnm6 g6 => ?_) (fun st h6 g6 L6 hl6 hp6 => ?_)
  · simp
    exact ⟨Gr.refl g6.rw, station_ok g6.rw fun x h7 e ok g7 => ⟨x, rfl, ⟨e, ok⟩, g7⟩⟩
  have M6 := M.keep g6.fm (by simpa using hmk)
  have L' := L.keep g6.fm (by simpa using hm)
  have G6 := G.trans g6
  simp [L6.i]
  refine wLc_draw (P := fun (x y : Stn) => y.name = x.name ∧ (StnOk x → StnOk y)) (enc := Stn.d) (dec := Stn.d) G6.rw (by simp; omega) (fun h' g => (L6.keep g.fm (by simp; have := G.rw.lt; omega)).i) (fun x h7 hx g7 => ?_) (fun rows h7 g7 L7 hl7 hp7 => ?_)
  · simp [Stn.d]
    exact ⟨Gr.refl g7.rw, ⟨x.name, x.room, x.life, if 2 < x.change then 2 else x.change, if 2 < x.repair then 2 else x.repair⟩, ⟨rfl, rfl, rfl, rfl, rfl⟩, ⟨rfl, fun ok => ⟨ok.room, ok.life, by have := ok.change; simp only; split <;> omega, by have := ok.repair; simp only; split <;> omega⟩⟩, Gr.refl g7.rw⟩
  have M7 := M6.keep g7.fm (by simpa using hmk)
  replace L' := L'.keep g7.fm (by simpa using hm)
  have G7 := G6.trans g7
  have hrows : rows.map Stn.name = names := by
    refine List.ext_getElem? fun i => ?_
    rw [List.getElem?_map]
    by_cases hi : i < rows.length
    · have e1 := List.getElem?_eq_getElem hi
      have e2 : st[i]? = some (st[i]'(by omega)) := List.getElem?_eq_getElem (by omega)
      have e3 : names[i]? = some (names[i]'(by omega)) := List.getElem?_eq_getElem (by omega)
      rw [e1, e3]
      have p1 := (hp6 _ _ _ e3 e2).1
      have p2 := (hp7 _ _ _ e2 e1).1
      simp [p2, p1]
    · rw [List.getElem?_eq_none (by omega), List.getElem?_eq_none (by omega)]; rfl
  have hrok : ∀ x ∈ rows, StnOk x := by
    intro x hx
    obtain ⟨i, hi⟩ := List.getElem?_of_mem hx
    have hi' := (List.getElem?_eq_some_iff.mp hi).1
    have e2 : st[i]? = some (st[i]'(by omega)) := List.getElem?_eq_getElem (by omega)
    have e3 : names[i]? = some (names[i]'(by omega)) := List.getElem?_eq_getElem (by omega)
    exact (hp7 _ _ _ e2 hi).2 (hp6 _ _ _ e3 e2).2
  simp [L7.i]
  -- the routes
  have G8 := G7.app [.lst []]
  have L8 := Ls.new h7 []
  have M8 := M7.app [.lst []]
  have N8 := L'.app [.lst []]
  have e8 : h.length ≤ h7.length := G7.fm.len
  have e8r : h7.length ≠ r := by have := G7.rw.lt; omega
  have e8m : h7.length ≠ m := by have := L'.lt; omega
  have e8k : h7.length ≠ mk := by have := M7.lt; omega
  generalize h7.length = f at *
  generalize h7 ++ [AO.lst []] = h8 at *
  refine ⟨_, M8.i, ?_⟩
  obtain ⟨I, hI⟩ : ∃ I : Nat → Rho → Hs → Prop, ∀ i ρ hx, I i ρ hx ↔ ∃ o6, ∃ xs : List Route, ρ = [some (.loc r), some (.loc m), some (.loc mk), some (.int period), some (.tup (rows.map Stn.d)), some (.loc f), o6, none, none, none, none, none, none] ∧ Gr r h hx ∧ Ls hx f (xs.map Route.d) ∧ Ls hx m (names.map D.str) ∧ Ls hx mk (kinds.map D.str) ∧ xs.map Route.name = kinds.take i ∧ (∀ x ∈ xs, RouteOk names x) := ⟨_, fun _ _ _ => Iff.rfl⟩
  refine wFor_inv I ((hI _ _ _).mpr ⟨none, [], rfl, G8, L8, N8, M8, rfl, by simp⟩) (fun i x ρ hx hi Ii => ?_) (fun ρ hx Ii => ?_)
  · obtain ⟨o6, xs, e, Gx, Fx, Lx, Mx, hkx, hS⟩ := (hI _ _ _).mp Ii
    subst e
    rw [List.getElem?_map] at hi
    cases ek : kinds[i]? with
    | none => rw [ek] at hi; cases hi
    | some nm =>
    rw [ek] at hi
    cases hi
    have hix := (List.getElem?_eq_some_iff.mp ek).1
    have hxl : xs.length = i := by have := congrArg List.length hkx; simp at this; omega
    simp
    refine ⟨Mx.i, isLst_of Fx, ?_⟩
    refine steps_ok Gx.rw Lx hm (by intro e; subst e; simp at hnl; omega) (by omega) (by omega) (by omega) fun ss hy hs1 hs2 hs3 gy => ?_
    simp
    refine wLc_draw (P := fun (x y : Stp1) => y.at_ = x.at_ ∧ y.back = x.back ∧ (1 ≤ x.work ∧ x.work ≤ 4 → 1 ≤ y.work ∧ y.work ≤ 4)) (enc := Stp1.d) (dec := Stp1.d) gy.rw (by simp; omega) (fun h' g => trivial) (fun x hz hxs gz => ?_) (fun ss2 hz gz Lz hlz hpz => ?_)
    · simp [Stp1.d]
      exact ⟨Gr.refl gz.rw, ⟨x.at_, if 2 < x.work then 2 else x.work, x.back⟩, ⟨rfl, rfl, rfl⟩, ⟨rfl, rfl, fun ok => by simp only; split <;> omega⟩, Gr.refl gz.rw⟩
    have F9 := (Fx.keep gy.fm (by simpa using e8r)).keep gz.fm (by simpa using e8r)
    have L9 := (Lx.keep gy.fm (by simpa using hm)).keep gz.fm (by simpa using hm)
    have M9 := (Mx.keep gy.fm (by simpa using hmk)).keep gz.fm (by simpa using hmk)
    have q4 : xs.length < 16777216 := by omega
    simp [Lz.i, F9.l, q4]
    refine (hI _ _ _).mpr ⟨_, xs ++ [⟨nm, ss2⟩], rfl, ((Gx.trans gy).trans gz).set w _ e8, by simpa [Route.d] using F9.set (xs.map Route.d ++ [.tup [.str nm, .tup (ss2.map Stp1.d)]]), L9.oth e8m, M9.oth e8k, ?_, fun x hx => ?_⟩
    · rw [List.map_append, hkx, List.take_add_one, ek]; rfl
    · rcases List.mem_append.mp hx with hx | hx
      · exact hS x hx
      · rw [List.mem_singleton.mp hx]
        refine ⟨hknm nm (List.mem_of_getElem? ek), by intro e; simp at e; subst e; simp at hlz; omega, by simp; omega, fun k y hk => ?_⟩
        have hk' := (List.getElem?_eq_some_iff.mp hk).1
        have e2 : ss[k]? = some (ss[k]'(by simp at hk'; omega)) := List.getElem?_eq_getElem _
        obtain ⟨p1, p2, p3⟩ := hpz _ _ _ e2 hk
        have s3 := hs3 _ _ e2
        exact ⟨by rw [p1]; exact s3.at_, p3 s3.work, fun b hb => s3.back b (by rw [← p2]; exact hb)⟩
  obtain ⟨o6, routes, e, Gx, Fx, Lx, Mx, hkx, hS⟩ := (hI _ _ _).mp Ii
  subst e
  rw [List.length_map, List.take_length] at hkx
  simp
  refine ⟨Mx.i, ?_⟩
  refine pickN_ok [1, 1, 1, 2, 2, 0, 3, 5] 0 5 Gx.rw (by decide) (by decide) (by decide) fun many h9 _ a4 b4 g9 => ?_
  have hne : kinds ≠ [] := by intro e; subst e; simp at hkl; omega
  have hrne : rows ≠ [] := by intro e; subst e; simp at hrows; subst hrows; simp at hnl; omega
  have tail : ∀ (os : List Order) (hz : Hs), Gr r hx hz → os.length ≤ 50 → (∀ o ∈ os, 0 ≤ o.phase ∧ o.phase < period ∧ o.kind ∈ kinds ∧ 1 ≤ o.lead ∧ o.lead ≤ 12) →
      wF F_law_pick [.loc r, .loc hz.length] (hz ++ [.lst [.int 0, .int 1, .int 1, .int 1]]) fun x h1 => wF F_law_pick [.loc r, .loc h1.length] (h1 ++ [.lst [.int 3, .int 4, .int 6, .int 8]]) fun x_1 h1 =>
        wO (match itemsAt h1 f with
          | some xs => some (.tup xs, h1)
          | none => none) fun x_2 h1 => wF F_law_setups [.loc r, .loc m, .loc mk] h1 fun x_3 h1 => wO (slO x_3 none (some 2) h1) fun x_4 h1 => wF F_law_pick [.loc r, .loc h1.length] (h1 ++ [.lst [.int 0, .int 0, .int 1]]) fun x_5 h1 =>
            Q (.tup [.tup (rows.map Stn.d), x_2, .int period, .tup (os.map Order.d), x_4, .tup [x, x_1], x_5]) h1 := by
    intro os hz gz hol hos
    refine pickN_ok [0, 1, 1, 1] 0 1 gz.rw (by decide) (by decide) (by decide) fun often hA _ a6 b6 gA => ?_
    refine pickN_ok [3, 4, 6, 8] 3 8 gA.rw (by decide) (by decide) (by decide) fun apart hB _ a7 b7 gB => ?_
    have gz := (gz.trans gA).trans gB
    have Fa := Fx.keep gz.fm (by simpa using e8r)
    have La := Lx.keep gz.fm (by simpa using hm)
    have Ma := Mx.keep gz.fm (by simpa using hmk)
    rw [Fa.i]
    simp
    refine setups_ok gB.rw La Ma hm hmk (by omega) (by omega) fun ss hC hss1 hss2 gC => ?_
    simp
    refine pickN_ok [0, 0, 1] 0 1 gC.rw (by decide) (by decide) (by decide) fun most hD _ a8 b8 gD => ?_
    have e : D.tup [.tup (rows.map Stn.d), .tup (routes.map Route.d), .int period, .tup (os.map Order.d), .tup ((ss.map Setup.d).take (min 2 ss.length)), .tup [.int often, .int apart], .int most] = (⟨rows, routes, period, os, ss.take (min 2 ss.length), often, apart, most⟩ : Pl).d := by
      simp [Pl.d]
    rw [e]
    refine q _ _ ?_ (((Gx.trans gz).trans gC).trans gD)
    exact {
      ne := hrne
      len := by have := congrArg List.length hrows; simp at this; show rows.length ≤ 26; omega
      nd := by show (rows.map Stn.name).Nodup; rw [hrows]; exact hnd
      row := fun x hx => ⟨hrok x hx, hnm _ (by rw [← hrows]; exact List.mem_map_of_mem hx)⟩
      kne := by intro e; have e : routes = [] := e; subst e; simp at hkx; first | exact hne hkx | exact hne hkx.symm
      klen := by have := congrArg List.length hkx; simp at this; show routes.length ≤ 26; omega
      knd := by show (routes.map Route.name).Nodup; rw [hkx]; exact hknd
      route := fun x hx => by show RouteOk (rows.map Stn.name) x; rw [hrows]; exact hS x hx
      period := ⟨a3, b3⟩
      olen := by show os.length ≤ 100; omega
      order := fun o ho => by
        obtain ⟨p1, p2, p3, p4, p5⟩ := hos o ho
        exact ⟨⟨p1, p2⟩, by show o.kind ∈ routes.map Route.name; rw [hkx]; exact p3, ⟨p4, by omega⟩⟩
      slen := by show (ss.take _).length ≤ 20; simp; omega
      setup := fun x hx => by
        show SetupOk (rows.map Stn.name) (routes.map Route.name) x
        rw [hrows, hkx]
        exact hss2 x (List.mem_of_mem_take hx)
      often := ⟨a6, by show often ≤ 3; omega⟩
      apart := ⟨by show 1 ≤ apart; omega, b7⟩
      most := ⟨a8, by show most ≤ 3; omega⟩ }
  simp
  split
  · refine pickN_ok [3, 5, 7, 9, 12] 3 12 g9.rw (by decide) (by decide) (by decide) fun leads h10 _ a5 b5 g10 => ?_
    refine ⟨by omega, ?_⟩
    have gA := g9.trans g10
    refine orders_ok (kinds := kinds) (period := period) (leads := leads) (many := many) g10.rw (Mx.keep gA.fm (by simpa using hmk)) hmk hne (by omega) (by omega) (by omega) (by omega) rfl rfl rfl rfl (by decide) (by decide) (by decide) (by decide) fun os h11 g11 L11 hol hos => ?_
    simp [L11.i]
    exact tail os h11 (gA.trans g11) (by omega) fun o ho => by
      obtain ⟨p1, p2, p3, p4, p5⟩ := hos o ho
      exact ⟨p1, p2, p3, p4, by omega⟩
  · refine ⟨by omega, ?_⟩
    refine orders_ok (kinds := kinds) (period := period) (leads := 3) (many := many) g9.rw (Mx.keep g9.fm (by simpa using hmk)) hmk hne (by omega) (by omega) (by omega) (by omega) rfl rfl rfl rfl (by decide) (by decide) (by decide) (by decide) fun os h11 g11 L11 hol hos => ?_
    simp [L11.i]
    exact tail os h11 (g9.trans g11) (by omega) fun o ho => by
      obtain ⟨p1, p2, p3, p4, p5⟩ := hos o ho
      exact ⟨p1, p2, p3, p4, by omega⟩
end MP

/-! text SP6 -/
set_option Elab.async false
set_option linter.all false
set_option maxRecDepth 100000
set_option maxHeartbeats 4000000
namespace MP
open PySem PySem.Spec PyProof.Rows
open L2 hiding St
/-! ### the line as data -/
structure Part where
  ord : Nat
  step : Nat
  age : Int
  again : Int
  tag : Option Int
def Part.d (x : Part) : D := .tup (.int x.ord :: .int x.step :: .int x.age :: .int x.again :: x.tag.toList.map D.int)
structure Bay where
  broken : Int
  busy : Int
  used : Int
  kind : Str
  hold : Option (Part × Int)
def holdD : Option (Part × Int) → D
  | none => .non
  | some (x, k) => .tup [x.d, .int k]
def Bay.ds (b : Bay) : List D := [.int b.broken, .int b.busy, .int b.used, .str b.kind, holdD b.hold]
structure Sta where
  phase : Int
  strikes : List Int
  bays : List Bay
  queues : List (List Part)
  gate : List Part
def queueD (q : List Part) : D := .tup (q.map Part.d)
def bayD (b : Bay) : D := .tup b.ds
def Sta.d (s : Sta) : D := .tup [.int s.phase, .tup (s.strikes.map D.int), .tup (s.bays.map bayD), .tup (s.queues.map queueD), .tup (s.gate.map Part.d)]
structure Row where
  word : Str
  part : Option Part
  at_ : Option Nat
  num : Int
def partO : Option Part → D
  | none => .non
  | some x => x.d
def Row.d (r : Row) : D := .tup [.str r.word, partO r.part, optN r.at_, .int r.num]
section
variable (h : Hs)
@[simp] theorem ixPl0 (p : Pl) : ixO p.d (.int 0) h = some (.tup (p.rows.map Stn.d), h) := by simp [Pl.d]
@[simp] theorem ixPl1 (p : Pl) : ixO p.d (.int 1) h = some (.tup (p.routes.map Route.d), h) := by simp [Pl.d]
@[simp] theorem ixPl2 (p : Pl) : ixO p.d (.int 2) h = some (.int p.period, h) := by simp [Pl.d]
@[simp] theorem ixPl3 (p : Pl) : ixO p.d (.int 3) h = some (.tup (p.orders.map Order.d), h) := by simp [Pl.d]
@[simp] theorem ixPl4 (p : Pl) : ixO p.d (.int 4) h = some (.tup (p.setups.map Setup.d), h) := by simp [Pl.d]
@[simp] theorem ixPl5 (p : Pl) : ixO p.d (.int 5) h = some (.tup [.int p.often, .int p.apart], h) := by simp [Pl.d]
@[simp] theorem ixPl6 (p : Pl) : ixO p.d (.int 6) h = some (.int p.most, h) := by simp [Pl.d]
@[simp] theorem ixStn0 (x : Stn) : ixO x.d (.int 0) h = some (.str x.name, h) := by simp [Stn.d]
@[simp] theorem ixStn1 (x : Stn) : ixO x.d (.int 1) h = some (.int x.room, h) := by simp [Stn.d]
@[simp] theorem ixStn2 (x : Stn) : ixO x.d (.int 2) h = some (.int x.life, h) := by simp [Stn.d]
@[simp] theorem ixStn3 (x : Stn) : ixO x.d (.int 3) h = some (.int x.change, h) := by simp [Stn.d]
@[simp] theorem ixStn4 (x : Stn) : ixO x.d (.int 4) h = some (.int x.repair, h) := by simp [Stn.d]
@[simp] theorem seqStn (x : Stn) : seqAt h x.d = some [.str x.name, .int x.room, .int x.life, .int x.change, .int x.repair] := rfl
@[simp] theorem ixStp0 (x : Stp1) : ixO x.d (.int 0) h = some (.str x.at_, h) := by simp [Stp1.d]
@[simp] theorem ixStp1 (x : Stp1) : ixO x.d (.int 1) h = some (.int x.work, h) := by simp [Stp1.d]
@[simp] theorem ixStp2 (x : Stp1) : ixO x.d (.int 2) h = some (optN x.back, h) := by simp [Stp1.d]
@[simp] theorem ixRoute0 (x : Route) : ixO x.d (.int 0) h = some (.str x.name, h) := by simp [Route.d]
@[simp] theorem ixRoute1 (x : Route) : ixO x.d (.int 1) h = some (.tup (x.steps.map Stp1.d), h) := by simp [Route.d]
@[simp] theorem ixOrder0 (x : Order) : ixO x.d (.int 0) h = some (.int x.phase, h) := by simp [Order.d]
@[simp] theorem ixOrder1 (x : Order) : ixO x.d (.int 1) h = some (.str x.kind, h) := by simp [Order.d]
@[simp] theorem ixOrder2 (x : Order) : ixO x.d (.int 2) h = some (.int x.lead, h) := by simp [Order.d]
@[simp] theorem ixSetup3 (x : Setup) : ixO x.d (.int 3) h = some (.int x.cost, h) := by simp [Setup.d]
@[simp] theorem ixPart0 (x : Part) : ixO x.d (.int 0) h = some (.int x.ord, h) := by simp [Part.d]
@[simp] theorem ixPart1 (x : Part) : ixO x.d (.int 1) h = some (.int x.step, h) := by simp [Part.d]
@[simp] theorem ixPart2 (x : Part) : ixO x.d (.int 2) h = some (.int x.age, h) := by simp [Part.d]
@[simp] theorem ixPart3 (x : Part) : ixO x.d (.int 3) h = some (.int x.again, h) := by simp [Part.d]
@[simp] theorem ixSta0 (x : Sta) : ixO x.d (.int 0) h = some (.int x.phase, h) := by simp [Sta.d]
@[simp] theorem ixSta1 (x : Sta) : ixO x.d (.int 1) h = some (.tup (x.strikes.map D.int), h) := by simp [Sta.d]
@[simp] theorem ixSta2 (x : Sta) : ixO x.d (.int 2) h = some (.tup (x.bays.map bayD), h) := by simp [Sta.d]
@[simp] theorem ixSta3 (x : Sta) : ixO x.d (.int 3) h = some (.tup (x.queues.map queueD), h) := by simp [Sta.d]
@[simp] theorem ixSta4 (x : Sta) : ixO x.d (.int 4) h = some (.tup (x.gate.map Part.d), h) := by simp [Sta.d]
@[simp] theorem seqSta (x : Sta) : seqAt h x.d = some [.int x.phase, .tup (x.strikes.map D.int), .tup (x.bays.map bayD), .tup (x.queues.map queueD), .tup (x.gate.map Part.d)] := rfl
@[simp] theorem ixBay0 (x : Bay) : ixO (bayD x) (.int 0) h = some (.int x.broken, h) := by simp [bayD, Bay.ds]
@[simp] theorem ixBay1 (x : Bay) : ixO (bayD x) (.int 1) h = some (.int x.busy, h) := by simp [bayD, Bay.ds]
@[simp] theorem ixBay2 (x : Bay) : ixO (bayD x) (.int 2) h = some (.int x.used, h) := by simp [bayD, Bay.ds]
@[simp] theorem ixBay3 (x : Bay) : ixO (bayD x) (.int 3) h = some (.str x.kind, h) := by simp [bayD, Bay.ds]
@[simp] theorem ixBay4 (x : Bay) : ixO (bayD x) (.int 4) h = some (holdD x.hold, h) := by simp [bayD, Bay.ds]
@[simp] theorem ixRow0 (x : Row) : ixO x.d (.int 0) h = some (.str x.word, h) := by simp [Row.d]
@[simp] theorem ixRow1 (x : Row) : ixO x.d (.int 1) h = some (partO x.part, h) := by simp [Row.d]
@[simp] theorem ixRow2 (x : Row) : ixO x.d (.int 2) h = some (optN x.at_, h) := by simp [Row.d]
@[simp] theorem ixRow3 (x : Row) : ixO x.d (.int 3) h = some (.int x.num, h) := by simp [Row.d]
@[simp] theorem seqRow (x : Row) : seqAt h x.d = some [.str x.word, partO x.part, optN x.at_, .int x.num] := rfl
@[simp] theorem optN_none : optN none = .non := rfl
@[simp] theorem optN_some (n : Nat) : optN (some n) = .int n := rfl
@[simp] theorem partO_none : partO none = .non := rfl
@[simp] theorem partO_some (x : Part) : partO (some x) = x.d := rfl
@[simp] theorem holdD_none : holdD none = .non := rfl
@[simp] theorem holdD_some (x : Part) (k : Int) : holdD (some (x, k)) = .tup [x.d, .int k] := rfl
@[simp] theorem isNon_hold (o : Option (Part × Int)) : (holdD o).isNon = o.isNone := by cases o <;> rfl
@[simp] theorem isNon_optN (o : Option Nat) : (optN o).isNon = o.isNone := by cases o <;> rfl
@[simp] theorem isNon_part (o : Option Part) : (partO o).isNon = o.isNone := by cases o <;> rfl
end
def dStn : Stn := ⟨⟨#[]⟩, 0, 0, 0, 0⟩
def dStp : Stp1 := ⟨⟨#[]⟩, 0, none⟩
def Pl.row (p : Pl) (k : Nat) : Stn := (p.rows[k]?).getD dStn
def Pl.routeOf (p : Pl) (kind : Str) : List Stp1 := ((p.routes.filter fun x => decide (x.name = kind)).map Route.steps).headD []
def Pl.kindOf (p : Pl) (x : Part) : Str := ((p.orders[x.ord]?).map Order.kind).getD ⟨#[]⟩
def Pl.way (p : Pl) (x : Part) : List Stp1 := p.routeOf (p.kindOf x)
def Pl.spot (p : Pl) (nm : Str) : Nat := ((List.range p.rows.length).filter fun k => decide ((p.row k).name = nm)).headD 0
def Pl.now (p : Pl) (x : Part) : Stp1 := ((p.way x)[x.step]?).getD dStp
def Pl.goal (p : Pl) (x : Part) : Nat := p.spot (p.now x).at_
def Pl.setup (p : Pl) (at_ one other : Str) : Int := ((p.setups.filter fun s => decide (s.at_ = at_ ∧ s.one = one ∧ s.other = other)).map Setup.cost).headD 0
theorem Pl.row_at {p : Pl} {k : Nat} (h : k < p.rows.length) : p.rows[k]? = some (p.row k) := by unfold Pl.row; rw [List.getElem?_eq_getElem h]; rfl
theorem headD_of {α : Type} {xs : List α} {d : α} (h : xs ≠ []) : xs[0]? = some (xs.headD d) := by cases xs with
  | nil => exact absurd rfl h
  | cons x xs => rfl
section
variable {p : Pl} {h : Hs} {Q : QE}
theorem route_ok {kind : Str} (hp : PlOk p) (hk : kind ∈ p.routes.map Route.name) (q : ∀ h', Fm [] h h' → Q (.tup ((p.routeOf kind).map Stp1.d)) h') : wF F_law_route [p.d, .str kind] h Q := by
  unfold F_law_route
  refine wF_runK ?_
  unfold S_law_route
  simp
  refine wLc_pureM (fun x : Route => decide (x.name = kind)) (fun x => .tup (x.steps.map Stp1.d)) (by have := hp.klen; simp; omega) (fun _ _ => trivial) (fun x h1 hx f => ?_) (fun h' f L => ?_)
  · simp
  · simp [L.i]
    have hne : (p.routes.filter fun x => decide (x.name = kind)) ≠ [] := by
      obtain ⟨x, hx, e⟩ := List.mem_map.mp hk
      intro z
      have : x ∈ p.routes.filter fun x => decide (x.name = kind) := List.mem_filter.mpr ⟨hx, by simpa using e⟩
      rw [z] at this; cases this
    unfold Pl.routeOf at q
    cases z : (p.routes.filter fun x => decide (x.name = kind)) with
    | nil => exact absurd z hne
    | cons y ys =>
      rw [z] at q
      simp
      exact q h' f
/-- a part of the line -/
structure PartOk (p : Pl) (x : Part) : Prop where
  ord : x.ord < p.orders.length
  step : x.step < (p.way x).length
theorem Pl.order_at {p : Pl} {x : Part} (h : x.ord < p.orders.length) : ∃ o, p.orders[x.ord]? = some o ∧ o.kind = p.kindOf x := by
  refine ⟨_, List.getElem?_eq_getElem h, ?_⟩
  unfold Pl.kindOf
  rw [List.getElem?_eq_getElem h]
  rfl
theorem Pl.kind_mem (hp : PlOk p) {x : Part} (h : x.ord < p.orders.length) : p.kindOf x ∈ p.routes.map Route.name := by
  obtain ⟨o, ho, e⟩ := Pl.order_at (p := p) h
  rw [← e]
  exact (hp.order o (List.mem_of_getElem? ho)).kind
theorem way_ok {x : Part} (hp : PlOk p) (hx : x.ord < p.orders.length) (q : ∀ h', Fm [] h h' → Q (.tup ((p.way x).map Stp1.d)) h') : wF F_law_way [p.d, x.d] h Q := by
  obtain ⟨o, ho, e⟩ := Pl.order_at (p := p) hx
  unfold F_law_way
  refine wF_runK ?_
  unfold S_law_way
  simp [ho, e]
  exact route_ok hp (Pl.kind_mem hp hx) q
theorem spot_ok {nm : Str} (hp : PlOk p) (hk : nm ∈ p.rows.map Stn.name) (q : ∀ h', Fm [] h h' → Q (.int (p.spot nm)) h') : wF F_law_spot [p.d, .str nm] h Q := by
  unfold F_law_spot
  refine wF_runK ?_
  unfold S_law_spot
  have hl := hp.len
  simp
  refine ⟨by omega, ?_⟩
  unfold rangeD
  simp
  refine wLc_pureM (dec := fun (k : Nat) => D.int k) (fun k : Nat => decide ((p.row k).name = nm)) (fun k => .int k) (by simp; omega) (fun _ _ => trivial) (fun k h1 hx f => ?_) (fun h' f L => ?_)
  · have := Pl.row_at (p := p) (k := k) (by simpa using hx)
    simp [this]
  · have hne : ((List.range p.rows.length).filter fun k => decide ((p.row k).name = nm)) ≠ [] := by
      obtain ⟨x, hx, e⟩ := List.mem_map.mp hk
      obtain ⟨k, hk⟩ := List.getElem?_of_mem hx
      have hk' := (List.getElem?_eq_some_iff.mp hk).1
      intro z
      have : k ∈ (List.range p.rows.length).filter fun k => decide ((p.row k).name = nm) := List.mem_filter.mpr ⟨by simpa using hk', by unfold Pl.row; rw [hk]; simpa using e⟩
      rw [z] at this; cases this
    unfold Pl.spot at q
    generalize ((List.range p.rows.length).filter fun k => decide ((p.row k).name = nm)) = l at *
    simp [L.i]
    exact ⟨_, headD_of hne, q h' f⟩
theorem Pl.way_at {x : Part} (h : x.step < (p.way x).length) : (p.way x)[x.step]? = some (p.now x) := by unfold Pl.now; rw [List.getElem?_eq_getElem h]; rfl
theorem Pl.routeOf_mem {kind : Str} (hk : kind ∈ p.routes.map Route.name) : ∃ x ∈ p.routes, x.steps = p.routeOf kind := by
  obtain ⟨x, hx, e⟩ := List.mem_map.mp hk
  have hm : x ∈ p.routes.filter fun x => decide (x.name = kind) := List.mem_filter.mpr ⟨hx, by simpa using e⟩
  unfold Pl.routeOf
  cases z : (p.routes.filter fun x => decide (x.name = kind)) with
  | nil => rw [z] at hm; cases hm
  | cons y ys => exact ⟨y, (List.mem_filter.mp (show y ∈ p.routes.filter fun x => decide (x.name = kind) by rw [z]; exact List.mem_cons_self)).1, rfl⟩
theorem Pl.way_steps (hp : PlOk p) {x : Part} (h : x.ord < p.orders.length) : p.way x ≠ [] ∧ (p.way x).length ≤ 100 ∧ ∀ (k : Nat) y, (p.way x)[k]? = some y → StepOk (p.rows.map Stn.name) k y := by
  obtain ⟨r, hr, e⟩ := Pl.routeOf_mem (p := p) (Pl.kind_mem hp h)
  have := hp.route r hr
  have e' : r.steps = p.way x := e
  exact ⟨by rw [← e']; exact this.ne, by rw [← e']; exact this.len, by rw [← e']; exact this.ok⟩
theorem Pl.now_mem (hp : PlOk p) {x : Part} (h : PartOk p x) : (p.now x).at_ ∈ p.rows.map Stn.name := ((Pl.way_steps hp h.ord).2.2 _ _ (Pl.way_at h.step)).at_
theorem goal_ok {x : Part} (hp : PlOk p) (hx : PartOk p x) (q : ∀ h', Fm [] h h' → Q (.int (p.goal x)) h') : wF F_law_goal [p.d, x.d] h Q := by
  unfold F_law_goal
  refine wF_runK ?_
  unfold S_law_goal
  simp
  refine way_ok hp hx.ord fun h1 f1 => ?_
  simp [Pl.way_at hx.step]
  exact spot_ok hp (Pl.now_mem hp hx) fun h2 f2 => q h2 (f1.trans f2)
theorem Nm.ok {x : Str} (h : Nm x) : PyData.strOk x = true := by
  unfold PyData.strOk
  rw [Array.all_eq_true]
  intro i hi
  have := h.ltr (x.cps[i]) (by unfold cs; simp)
  simp
  omega
theorem goal_lt (hp : PlOk p) {x : Part} (hx : PartOk p x) : p.goal x < p.rows.length := by
  unfold Pl.goal Pl.spot
  cases z : ((List.range p.rows.length).filter fun k => decide ((p.row k).name = (p.now x).at_)) with
  | nil => show 0 < _; exact List.length_pos_iff.mpr hp.ne
  | cons y ys =>
    have : y ∈ (List.range p.rows.length).filter fun k => decide ((p.row k).name = (p.now x).at_) := by rw [z]; exact List.mem_cons_self
    simpa using (List.mem_filter.mp this).1
theorem setup_ok {at_ one other : Str} (hp : PlOk p) (ha : PyData.strOk at_ = true) (ho : PyData.strOk one = true) (ht : PyData.strOk other = true) (q : ∀ h', Fm [] h h' → Q (.int (p.setup at_ one other)) h') : wF F_law_setup [p.d, .str at_, .str one, .str other] h Q := by
  unfold F_law_setup
  refine wF_runK ?_
  unfold S_law_setup
  have hl := hp.slen
  simp
  refine wLc_pureM (fun s : Setup => decide (s.at_ = at_ ∧ s.one = one ∧ s.other = other)) (fun s => .int s.cost) (by simp; omega) (fun _ _ => trivial) (fun s h1 hx f => ?_) (fun h' f L => ?_)
  · have so := hp.setup s hx
    have k1 : PyData.strOk s.at_ = true := by
      obtain ⟨y, hy, e⟩ := List.mem_map.mp so.at_
      rw [← e]; exact (hp.row y hy).2.ok
    have k2 : ∀ z, z ∈ p.routes.map Route.name → PyData.strOk z = true := by
      intro z hz
      obtain ⟨y, hy, e⟩ := List.mem_map.mp hz
      rw [← e]; exact (hp.route y hy).nm.ok
    have e := eq_sss (h := h1) k1 (k2 _ so.one) (k2 _ so.other) ha ho ht
    simp [Setup.d]
    rw [e]
    simp
  · unfold Pl.setup at q
    generalize (p.setups.filter fun s => decide (s.at_ = at_ ∧ s.one = one ∧ s.other = other)) = l at *
    have e := ne_nilL (h := h' ++ [.lst []]) (n := 1) (xs := l.map fun s => D.int s.cost) (L.app [.lst []]).i (Ls.new h' []).i (by omega) (by simp [plain])
    have Lq := (L.app [.lst []]).i
    simp [e]
    cases l with
    | nil =>
      simp
      exact q _ (f.app _)
    | cons y ys =>
      simp [Lq]
      exact q _ (f.app _)
/-! ### one part, one bay -/
def Part.older (x : Part) : Part := { x with age := x.age + 1 }
theorem older_ok {x : Part} (q : Q x.older.d h) : wF F_law_older [x.d] h Q := by
  unfold F_law_older
  refine wF_runK ?_
  unfold S_law_older
  have e : x.older.d = .tup (.int x.ord :: .int x.step :: .int (x.age + 1) :: .int x.again :: x.tag.toList.map D.int) := rfl
  rw [e] at q
  cases ht : x.tag with
  | none => rw [ht] at q; simp [Part.d, ht]; exact q
  | some n => rw [ht] at q; simp [Part.d, ht]; exact q
/-- a bay takes a part up -/
def Pl.begin (p : Pl) (k : Nat) (b : Bay) (x : Part) : Bay × List Row :=
  let st := p.row k
  let busy := if b.kind = ⟨#[]⟩ then 0 else p.setup st.name b.kind (p.kindOf x)
  let work := (p.now x).work
  if 0 < st.life ∧ st.life < b.used + work then ({ b with busy := busy + st.change, used := 0, kind := p.kindOf x, hold := some (x, work) }, [⟨"changed", some x, some k, st.change⟩, ⟨"took", some x, some k, busy + st.change⟩])
  else ({ b with busy := busy, kind := p.kindOf x, hold := some (x, work) }, [⟨"took", some x, some k, busy⟩])
theorem begin_ok {k l R : Nat} {b : Bay} {x : Part} {rows : List Row} (hp : PlOk p) (hk : k < p.rows.length) (hx : PartOk p x) (hb : PyData.strOk b.kind = true) (L : Ls h l b.ds) (M : Ls h R (rows.map Row.d)) (hlr : l ≠ R) (hr : rows.length ≤ 100000)
    (q : ∀ h', Fm [l, R] h h' → Ls h' l (p.begin k b x).1.ds → Ls h' R ((rows ++ (p.begin k b x).2).map Row.d) → Q .non h') : wF F_law_begin [p.d, .int k, .loc l, x.d, .loc R] h Q := by
  obtain ⟨o, ho, eo⟩ := Pl.order_at (p := p) hx.ord
  have hrow := Pl.row_at hk
  unfold F_law_begin
  refine wF_runK ?_
  unfold S_law_begin
  simp [hrow, ho, eo]
  refine way_ok hp hx.ord fun h1 f1 => ?_
  have L1 : Ls h1 l [.int b.broken, .int b.busy, .int b.used, .str b.kind, holdD b.hold] := L.keep0 f1
  have M1 := M.keep0 f1
  have z1 := L1.l; have z2 := L1.lt; have z3 := M1.l; have z4 := M1.lt
  have z5 : rows.length < 16777216 := by omega
  have z6 : rows.length + 1 < 16777216 := by omega
  have hlr' : R ≠ l := fun e => hlr e.symm
  have emp : (Str.ofString "") = ⟨#[]⟩ := rfl
  have st := (hp.row _ (List.mem_of_getElem? hrow))
  have kok : PyData.strOk (p.kindOf x) = true := by
    obtain ⟨y, hy, e⟩ := List.mem_map.mp (Pl.kind_mem hp hx.ord)
    rw [← e]; exact (hp.route y hy).nm.ok
  by_cases hz : b.kind = ⟨#[]⟩
  · by_cases hl : 0 < (p.row k).life ∧ (p.row k).life < b.used + (p.now x).work
    · simp [Pl.way_at hx.step, L1.i, ixN, z1, z2, z3, z4, hlr, hlr', z5, z6, emp, hz, hl]
      refine q _ (by repeat (first | exact f1.of0 | refine Fm.set ?_ _ (.inl (by simp)))) ?_ ?_
      · unfold Ls; simp [List.getElem?_set, hlr', z2, z4, Pl.begin, Bay.ds, hz, hl]
      · unfold Ls; simp [List.getElem?_set, hlr, z2, z4, Pl.begin, Row.d, partO, optN, hz, hl]
    · have hl' : ¬ (0 < (p.row k).life ∧ (p.row k).life < b.used + (p.now x).work) := hl
      simp only [not_and] at hl
      by_cases hq : 0 < (p.row k).life
      · have hl2 := hl hq
        simp [Pl.way_at hx.step, L1.i, ixN, z1, z2, z3, z4, hlr, hlr', z5, z6, emp, hz, hq, hl2]
        refine q _ (by repeat (first | exact f1.of0 | refine Fm.set ?_ _ (.inl (by simp)))) ?_ ?_
        · unfold Ls; simp [List.getElem?_set, hlr', z2, z4, Pl.begin, Bay.ds, hz, hl']
        · unfold Ls; simp [List.getElem?_set, hlr, z2, z4, Pl.begin, Row.d, partO, optN, hz, hl']
      · simp [Pl.way_at hx.step, L1.i, ixN, z1, z2, z3, z4, hlr, hlr', z5, z6, emp, hz, hq]
        refine q _ (by repeat (first | exact f1.of0 | refine Fm.set ?_ _ (.inl (by simp)))) ?_ ?_
        · unfold Ls; simp [List.getElem?_set, hlr', z2, z4, Pl.begin, Bay.ds, hz, hl']
        · unfold Ls; simp [List.getElem?_set, hlr, z2, z4, Pl.begin, Row.d, partO, optN, hz, hl']
  · simp [Pl.way_at hx.step, L1.i, ixN, z1, z2, z3, z4, hlr, hlr', z5, z6, emp, hz]
    refine setup_ok hp st.2.ok hb kok fun h2 f2 => ?_
    replace f1 := f1.trans f2
    replace L1 := L1.keep0 f2; replace M1 := M1.keep0 f2
    replace z1 := L1.l; replace z2 := L1.lt; replace z3 := M1.l; replace z4 := M1.lt
    by_cases hl : 0 < (p.row k).life ∧ (p.row k).life < b.used + (p.now x).work
    · simp [L1.i, ixN, z1, z2, z3, z4, hlr, hlr', z5, z6, emp, hz, hl]
      refine q _ (by repeat (first | exact f1.of0 | refine Fm.set ?_ _ (.inl (by simp)))) ?_ ?_
      · unfold Ls; simp [List.getElem?_set, hlr', z2, z4, Pl.begin, Bay.ds, hz, hl]
      · unfold Ls; simp [List.getElem?_set, hlr, z2, z4, Pl.begin, Row.d, partO, optN, hz, hl]
    · have hl' : ¬ (0 < (p.row k).life ∧ (p.row k).life < b.used + (p.now x).work) := hl
      simp only [not_and] at hl
      by_cases hq : 0 < (p.row k).life
      · have hl2 := hl hq
        simp [L1.i, ixN, z1, z2, z3, z4, hlr, hlr', z5, z6, emp, hz, hq, hl2]
        refine q _ (by repeat (first | exact f1.of0 | refine Fm.set ?_ _ (.inl (by simp)))) ?_ ?_
        · unfold Ls; simp [List.getElem?_set, hlr', z2, z4, Pl.begin, Bay.ds, hz, hl']
        · unfold Ls; simp [List.getElem?_set, hlr, z2, z4, Pl.begin, Row.d, partO, optN, hz, hl']
      · simp [L1.i, ixN, z1, z2, z3, z4, hlr, hlr', z5, z6, emp, hz, hq]
        refine q _ (by repeat (first | exact f1.of0 | refine Fm.set ?_ _ (.inl (by simp)))) ?_ ?_
        · unfold Ls; simp [List.getElem?_set, hlr', z2, z4, Pl.begin, Bay.ds, hz, hl']
        · unfold Ls; simp [List.getElem?_set, hlr, z2, z4, Pl.begin, Row.d, partO, optN, hz, hl']
theorem slPart4 (x : Part) : slO x.d (some 4) none h = some (.tup (x.tag.toList.map D.int), h) := by
  unfold Part.d
  cases ht : x.tag <;> simp
/-- a bay's moment of work; word: the strike -/
def Pl.work (p : Pl) (k : Nat) (b : Bay) (word : Str) : Bay × List Row :=
  if 0 < b.broken then ({ b with broken := b.broken - 1 }, [])
  else if 0 < b.busy then ({ b with busy := b.busy - 1 }, [])
  else match b.hold with
    | none => (b, [])
    | some (x, left) => if 0 < left then
        let used := b.used + (if 0 < (p.row k).life then 1 else 0)
        if left = 1 then
          if word = (p.row k).name ++ (Str.ofString "!") then ({ b with used := used, hold := some ({ x with step := (p.now x).back.getD 0, again := x.again + 1 }, 0) }, [⟨"spoiled", some x, some k, x.step⟩])
          else ({ b with used := used, hold := some ({ x with step := x.step + 1 }, 0) }, [⟨"finished", some x, some k, x.step⟩])
        else ({ b with used := used, hold := some (x, left - 1) }, [])
      else (b, [])
/-- what a bay holds: its part is in work or has come to the end of its step -/
def HoldOk (p : Pl) : Option (Part × Int) → Prop
  | none => True
  | some (x, left) => x.ord < p.orders.length ∧ 0 ≤ left ∧ (0 < left → x.step < (p.way x).length) ∧ x.step ≤ (p.way x).length
/-- a spoiled step has a step to go back to -/
def BackOk (p : Pl) (k : Nat) (b : Bay) (word : Str) : Prop := ¬ 0 < b.broken → ¬ 0 < b.busy → ∀ x, b.hold = some (x, 1) → word = (p.row k).name ++ (Str.ofString "!") → (p.now x).back ≠ none
theorem work_ok {k l R : Nat} {b : Bay} {word : Str} {rows : List Row} (hp : PlOk p) (hk : k < p.rows.length) (hx : HoldOk p b.hold) (hbk : BackOk p k b word) (L : Ls h l b.ds) (M : Ls h R (rows.map Row.d)) (hlr : l ≠ R) (hr : rows.length ≤ 100000)
    (q : ∀ h', Fm [l, R] h h' → Ls h' l (p.work k b word).1.ds → Ls h' R ((rows ++ (p.work k b word).2).map Row.d) → Q .non h') : wF F_law_work [p.d, .int k, .loc l, .str word, .loc R] h Q := by
  have hrow := Pl.row_at hk
  have st := (hp.row _ (List.mem_of_getElem? hrow))
  unfold F_law_work
  refine wF_runK ?_
  unfold S_law_work
  replace L : Ls h l [.int b.broken, .int b.busy, .int b.used, .str b.kind, holdD b.hold] := L
  have z1 := L.l; have z2 := L.lt; have z3 := M.l; have z4 := M.lt
  have z5 : rows.length < 16777216 := by omega
  have hlr' : R ≠ l := fun e => hlr e.symm
  by_cases c1 : 0 < b.broken
  · simp [L.i, ixN, z1, z2, z3, z4, hlr, hlr', c1]
    refine q _ (by repeat (first | exact Fm.refl _ _ | refine Fm.set ?_ _ (.inl (by simp)))) ?_ ?_
    · unfold Ls; simp [List.getElem?_set, hlr', z2, z4, Pl.work, Bay.ds, c1]
    · simp [Pl.work, c1]; exact M.oth hlr
  by_cases c2 : 0 < b.busy
  · simp [L.i, ixN, z1, z2, z3, z4, hlr, hlr', c1, c2]
    refine q _ (by repeat (first | exact Fm.refl _ _ | refine Fm.set ?_ _ (.inl (by simp)))) ?_ ?_
    · unfold Ls; simp [List.getElem?_set, hlr', z2, z4, Pl.work, Bay.ds, c1, c2]
    · simp [Pl.work, c1, c2]; exact M.oth hlr
  cases ch : b.hold with
  | none =>
    rw [ch] at z1
    have Li := L.i
    rw [ch] at Li
    simp [Li, ixN, z1, z2, z3, z4, hlr, hlr', c1, c2]
    refine q _ (Fm.refl _ _) ?_ ?_
    · simpa [Pl.work, c1, c2, ch, Bay.ds] using L
    · simpa [Pl.work, c1, c2, ch] using M
  | some xl =>
  obtain ⟨x, left⟩ := xl
  rw [ch] at z1 hx
  have Li := L.i
  rw [ch] at Li
  obtain ⟨hord, hl0, hst, hst2⟩ := hx
  by_cases c3 : 0 < left
  · have hst' := hst c3
    by_cases c4 : left = 1
    · subst c4
      have e7 : 4 + x.tag.toList.length ≤ 16777216 := by cases x.tag <;> simp
      have e8 : (p.row k).name.length + 1 ≤ 16777216 := by have := st.2.top; omega
      have e9 : (Str.ofString "!").length = 1 := rfl
      by_cases c6 : word = (p.row k).name ++ (Str.ofString "!")
      · obtain ⟨bk, hbk'⟩ : ∃ bk, (p.now x).back = some bk := by
          cases z : (p.now x).back with
          | none => exact absurd z (hbk c1 c2 x ch c6)
          | some bk => exact ⟨bk, rfl⟩
        have c7 : decide (word = (p.row k).name ++ (Str.ofString "!")) = true := decide_eq_true c6
        simp [Li, ixN, z1, z2, z3, z4, hlr, hlr', c1, c2, hrow, e8, e9, c7, z5]
        refine way_ok hp hord fun h2 f2 => ?_
        have f3 : Fm [l, R] h h2 := by
          refine Fm.then0 ?_ f2
          repeat (first | exact Fm.refl _ _ | refine Fm.set ?_ _ (.inl (by simp)))
        have L2 := f2.get0 (l := l) (o := .lst [D.int b.broken, D.int b.busy, D.int (b.used + if 0 < (p.row k).life then 1 else 0), D.str b.kind, D.tup [x.d, D.int 0]]) (by simp [List.getElem?_set, hlr', z2])
        have M2 := f2.get0 (l := R) (o := .lst (List.map Row.d rows ++ [D.tup [D.str (Str.ofString "spoiled"), x.d, D.int ↑k, D.int ↑x.step]])) (by simp [List.getElem?_set, hlr, z4])
        have L2 : Ls h2 l _ := L2
        have M2 : Ls h2 R _ := M2
        simp [Pl.way_at hst', hbk', slPart4, e7, L2.l, ixN]
        refine q _ (by repeat (first | exact f3 | refine Fm.set ?_ _ (.inl (by simp)))) ?_ ?_
        · unfold Ls; simp [List.getElem?_set, L2.lt, Pl.work, Bay.ds, c1, c2, ch, c6, hbk', Part.d]
        · have := M2.oth (m := l) (o := .lst [D.int b.broken, D.int b.busy, D.int (b.used + if 0 < (p.row k).life then 1 else 0), D.str b.kind, D.tup [D.tup (D.int ↑x.ord :: D.int ↑bk :: D.int x.age :: D.int (x.again + 1) :: List.map D.int x.tag.toList), D.int 0]]) hlr
          simpa [Pl.work, c1, c2, ch, c6, Row.d, partO, optN] using this
      · have c7 : decide (word = (p.row k).name ++ (Str.ofString "!")) = false := decide_eq_false c6
        simp [Li, ixN, z1, z2, z3, z4, hlr, hlr', c1, c2, hrow, e8, e9, c7, z5, slPart4, e7]
        refine q _ (by repeat (first | exact Fm.refl _ _ | refine Fm.set ?_ _ (.inl (by simp)))) ?_ ?_
        · unfold Ls; simp [List.getElem?_set, hlr', z2, z4, Pl.work, Bay.ds, c1, c2, ch, c6, Part.d]
        · unfold Ls; simp [List.getElem?_set, hlr, z2, z4, Pl.work, Row.d, partO, optN, c1, c2, ch, c6]
    · simp [Li, ixN, z1, z2, z3, z4, hlr, hlr', c1, c2, hrow, c3, c4]
      refine q _ (by repeat (first | exact Fm.refl _ _ | refine Fm.set ?_ _ (.inl (by simp)))) ?_ ?_
      · unfold Ls; simp [List.getElem?_set, hlr', z2, z4, Pl.work, Bay.ds, c1, c2, ch, c3, c4]
      · simp [Pl.work, c1, c2, ch, c3, c4]; exact (M.oth hlr)
  · simp [Li, ixN, z1, z2, z3, z4, hlr, hlr', c1, c2, c3]
    refine q _ (Fm.refl _ _) ?_ ?_
    · simpa [Pl.work, c1, c2, ch, c3, Bay.ds] using L
    · simpa [Pl.work, c1, c2, ch, c3] using M
/-! ### the moment's end -/
def Bay.older (b : Bay) : Bay := { b with hold := b.hold.map fun q => (q.1.older, q.2) }
def Pl.closed (p : Pl) (phase : Int) (strikes : List Int) (bays : List Bay) (queues : List (List Part)) (gate : List Part) (struck : Bool) : Sta :=
  ⟨(phase + 1) % p.period, ((if struck then [1] else []) ++ strikes.map (· + 1)).filter fun n => decide (n < p.apart), bays.map Bay.older, queues.map fun q => q.map Part.older, gate.map Part.older⟩
/-- lists that stand at places, one for one -/
structure Pts {α : Type} (enc : α → List D) (h : Hs) (ls : List Nat) (xs : List α) : Prop where
  len : ls.length = xs.length
  at_ : ∀ (i : Nat) (l : Nat) (x : α), ls[i]? = some l → xs[i]? = some x → Ls h l (enc x)
theorem Pts.keep0 {α : Type} {enc : α → List D} {h h' : Hs} {ls : List Nat} {xs : List α} (a : Pts enc h ls xs) (f : Fm [] h h') : Pts enc h' ls xs := ⟨a.len, fun i l x e e' => (a.at_ i l x e e').keep0 f⟩
theorem Pts.get {α : Type} {enc : α → List D} {h : Hs} {ls : List Nat} {xs : List α} {i : Nat} {x : α} (a : Pts enc h ls xs) (e : xs[i]? = some x) : ∃ l, ls[i]? = some l ∧ Ls h l (enc x) := by
  have hi := (List.getElem?_eq_some_iff.mp e).1
  have e' : ls[i]? = some (ls[i]'(by rw [a.len]; exact hi)) := List.getElem?_eq_getElem _
  exact ⟨_, e', a.at_ i _ x e' e⟩
theorem olders_ok {i : Nat} {xs : List Part} {Q : Hs → Prop} {ρ0 : Rho} {gd : Gd} (hs : xs.length < sizeLine) (hgd : ∀ h', Fm [] h h' → gOk gd h') (hi : i < ρ0.length) (fin : ∀ h', Fm [] h h' → Ls h' h.length (xs.map fun x => x.older.d) → Q h') :
    wLc gd (gVar i) bYes (mCallF 1 F_law_older (aCons (mVar i) aNil)) ρ0 h.length (xs.map Part.d) (h ++ [.lst []]) Q := by
  refine wLc_pureM (fun _ => true) (fun x : Part => x.older.d) hs hgd (fun x h1 hx f => ?_) (fun h' f L => fin h' f (by rw [List.filter_eq_self.mpr (by simp)] at L; exact L))
  simp
  rw [List.getElem?_set_self hi]
  simp
  exact older_ok ⟨rfl, Fm.refl _ _⟩
theorem incs_ok {i : Nat} {ns : List Int} {Q : Hs → Prop} {ρ0 : Rho} {gd : Gd} (hs : ns.length < sizeLine) (hgd : ∀ h', Fm [] h h' → gOk gd h') (hi : i < ρ0.length) (fin : ∀ h', Fm [] h h' → Ls h' h.length ((ns.map (· + 1)).map D.int) → Q h') :
    wLc gd (gVar i) bYes (mOp2 addD (mVar i) (mC (.int 1))) ρ0 h.length (ns.map D.int) (h ++ [.lst []]) Q := by
  refine wLc_pureM (fun _ => true) (fun x : Int => .int (x + 1)) hs hgd (fun x h1 hx f => ?_) (fun h' f L => fin h' f (by rw [List.filter_eq_self.mpr (by simp)] at L; rw [List.map_map]; exact L))
  simp
  rw [List.getElem?_set_self hi]
  simp
theorem strikes_ok {ρ : Rho} {strikes : List Int} {struck : Bool} (e6 : ρ[6]? = some (some (.bl struck))) (e2 : ρ[2]? = some (some (.tup (strikes.map D.int)))) (hi : 12 < ρ.length) (n5 : strikes.length ≤ 100000)
    (q : ∀ m h', Fm [] h h' → h.length ≤ m → Ls h' m (((if struck then [1] else []) ++ strikes.map (· + 1)).map D.int) → Q (.loc m) h') :
    wE (mOp2 addD (mIf (bTru (mVar 6)) (mLst (aCons (mC (.int 1)) aNil)) (mLst aNil)) (mLc (iSeq (mVar 2)) (gVar 12) bYes (mOp2 addD (mVar 12) (mC (.int 1))) [12])) ρ h Q := by
  have e2' : ∀ hx : Hs, True := fun _ => trivial
  cases struck
  · simp [e6, e2]
    have L0 := Ls.new h []
    have f0 : Fm [] h (h ++ [.lst []]) := (Fm.refl _ _).app _
    rw [show h ++ [AO.lst [], AO.lst []] = (h ++ [AO.lst []]) ++ [AO.lst []] by simp, show h.length + 1 = (h ++ [AO.lst []]).length by simp]
    generalize hm : h.length = m at *
    generalize h ++ [AO.lst []] = h1 at *
    refine incs_ok (by simp; omega) (fun _ _ => trivial) (by simpa using hi) fun h2 f2 L2 => ?_
    have a1 := L0.keep0 f2
    have b1 : (0 : Nat) + strikes.length ≤ 16777216 := by omega
    simp [a1.l, L2.l]
    rw [if_pos (by omega)]
    simp
    exact q _ _ ((f0.trans f2).app _) (by rw [← hm]; exact (f0.trans f2).len) (by simpa using Ls.new h2 ((strikes.map (· + 1)).map D.int))
  · simp [e6, e2]
    have L0 := Ls.new h [.int 1]
    have f0 : Fm [] h (h ++ [.lst [.int 1]]) := (Fm.refl _ _).app _
    rw [show h ++ [AO.lst [.int 1], AO.lst []] = (h ++ [AO.lst [.int 1]]) ++ [AO.lst []] by simp, show h.length + 1 = (h ++ [AO.lst [.int 1]]).length by simp]
    generalize hm : h.length = m at *
    generalize h ++ [AO.lst [.int 1]] = h1 at *
    refine incs_ok (by simp; omega) (fun _ _ => trivial) (by simpa using hi) fun h2 f2 L2 => ?_
    have a1 := L0.keep0 f2
    simp [a1.l, L2.l]
    rw [if_pos (by omega)]
    simp
    exact q _ _ ((f0.trans f2).app _) (by rw [← hm]; exact (f0.trans f2).len) (by simpa using Ls.new h2 (.int 1 :: (strikes.map (· + 1)).map D.int))
theorem closed_ok {B C S : Nat} {bl ql : List Nat} {phase : Int} {strikes : List Int} {bays : List Bay} {queues : List (List Part)} {gate : List Part} {struck : Bool} (hp : PlOk p) (LB : Ls h B (bl.map D.loc)) (PB : Pts Bay.ds h bl bays) (LC : Ls h C (ql.map D.loc)) (PC : Pts (fun q => q.map Part.d) h ql queues)
    (LS : Ls h S (gate.map Part.d)) (n1 : bays.length ≤ 1000) (n2 : queues.length ≤ 1000) (n3 : ∀ q ∈ queues, q.length ≤ 10000000) (n4 : gate.length ≤ 100000) (n5 : strikes.length ≤ 100000)
    (q : ∀ h', Fm [] h h' → Q (p.closed phase strikes bays queues gate struck).d h') : wF F_law_closed [p.d, .int phase, .tup (strikes.map D.int), .loc B, .loc C, .loc S, .bl struck] h Q := by
  unfold F_law_closed
  refine wF_runK ?_
  unfold S_law_closed
  simp
  have f0 : Fm [] h (h ++ [.lst []]) := (Fm.refl _ _).app _
  have L0 := Ls.new h []
  have lt := L0.lt
  generalize ef : h.length = f at *
  generalize h ++ [AO.lst []] = h0 at *
  refine ⟨_, (LB.keep0 f0).i, ?_⟩
  obtain ⟨I, hI⟩ : ∃ I : Nat → Rho → Hs → Prop, ∀ i ρ hx, I i ρ hx ↔ ∃ o8, ρ = [some p.d, some (.int phase), some (.tup (strikes.map D.int)), some (.loc B), some (.loc C), some (.loc S), some (.bl struck), some (.loc f), o8, none, none, none, none, none, none] ∧ Fm [] h hx ∧ Ls hx f ((bays.take i).map fun b => bayD b.older) := ⟨_, fun _ _ _ => Iff.rfl⟩
  refine wFor_inv I ((hI _ _ _).mpr ⟨none, rfl, f0, by simpa using L0⟩) (fun i x ρ hx hi Ii => ?_) (fun ρ hx Ii => ?_)
  · obtain ⟨o8, e, F, L⟩ := (hI _ _ _).mp Ii
    subst e
    rw [List.getElem?_map] at hi
    cases el : bl[i]? with
    | none => rw [el] at hi; cases hi
    | some l =>
    rw [el] at hi
    cases hi
    have hil := (List.getElem?_eq_some_iff.mp el).1
    have eb : bays[i]? = some (bays[i]'(by rw [← PB.len]; exact hil)) := List.getElem?_eq_getElem _
    generalize (bays[i]'(by rw [← PB.len]; exact hil)) = b at *
    have Lb : Ls hx l b.ds := (PB.at_ i l b el eb).keep0 F
    have Li := Lb.i
    have q4 : min i bays.length < 16777216 := by omega
    have et : bays.take (i + 1) = bays.take i ++ [b] := by rw [List.take_add_one, eb]; rfl
    unfold Bay.ds at Li
    have next : ∀ hy, Fm [] hx hy → I (i + 1) [some p.d, some (.int phase), some (.tup (strikes.map D.int)), some (.loc B), some (.loc C), some (.loc S), some (.bl struck), some (.loc f), some (.loc l), none, none, none, none, none, none] (hy.set f (.lst (((bays.take i).map fun b => bayD b.older) ++ [bayD b.older]))) := fun hy fy =>
      (hI _ _ _).mpr ⟨_, rfl, (F.trans fy).set _ (.inr (by omega)), by rw [et]; simpa using (L.keep0 fy).set (((bays.take i).map fun b => bayD b.older) ++ [bayD b.older])⟩
    cases hh : b.hold with
    | none =>
      rw [hh] at Li
      have e : bayD b.older = .tup [.int b.broken, .int b.busy, .int b.used, .str b.kind, .non] := by simp [bayD, Bay.ds, Bay.older, hh]
      simp [LB.i, (LB.keep0 F).i, isLst_of L, Li, L.l, q4]
      rw [← e]
      simpa using next hx (Fm.refl _ _)
    | some xk =>
      obtain ⟨x, k⟩ := xk
      rw [hh] at Li
      have e : bayD b.older = .tup [.int b.broken, .int b.busy, .int b.used, .str b.kind, .tup [x.older.d, .int k]] := by simp [bayD, Bay.ds, Bay.older, hh]
      simp [LB.i, (LB.keep0 F).i, isLst_of L, Li, L.l, q4]
      refine older_ok ?_
      simp [Li, L.l, q4]
      rw [← e]
      simpa using next hx (Fm.refl _ _)
  · obtain ⟨o8, e, F, L⟩ := (hI _ _ _).mp Ii
    subst e
    rw [List.length_map, PB.len, List.take_length] at L
    refine ⟨(LB.keep0 F).i, ?_⟩
    rw [seqK_nx, wS_Seq, wS_Set]
    refine strikes_ok rfl rfl (by simp) n5 fun m h1 f1 hm1 M1 => ?_
    have hal : ((if struck then [1] else []) ++ strikes.map (· + 1)).length ≤ 100001 := by cases struck <;> simp <;> omega
    generalize hago : ((if struck then [1] else []) ++ strikes.map (· + 1)) = ago at M1 hal
    have F1 := F.trans f1
    have C1 := LC.keep0 F1
    have P1 := PC.keep0 F1
    simp [C1.i]
    -- the queues
    obtain ⟨zs, hz1, hz2⟩ : ∃ zs : List (Nat × List Part), zs.map Prod.fst = ql ∧ zs.map Prod.snd = queues := ⟨ql.zip queues, List.map_fst_zip (by rw [PC.len]; exact Nat.le_refl _), List.map_snd_zip (by rw [PC.len]; exact Nat.le_refl _)⟩
    have hzs : ∀ z ∈ zs, Ls h z.1 (z.2.map Part.d) ∧ z.2 ∈ queues := by
      intro z hz
      obtain ⟨i, hi⟩ := List.getElem?_of_mem hz
      have a : ql[i]? = some z.1 := by rw [← hz1, List.getElem?_map, hi]; rfl
      have b : queues[i]? = some z.2 := by rw [← hz2, List.getElem?_map, hi]; rfl
      exact ⟨PC.at_ i _ _ a b, List.mem_of_getElem? b⟩
    rw [show ql.map D.loc = zs.map (fun z => D.loc z.1) by rw [← hz1, List.map_map]; rfl]
    have zl : zs.length ≤ 1000 := by rw [← List.length_map (f := Prod.snd) (as := zs), hz2]; exact n2
    refine wLc_pureM (fun _ => true) (fun z : Nat × List Part => queueD (z.2.map Part.older)) (by simp; omega) (fun h' f' => by
      rw [show zs.map (fun z => D.loc z.1) = ql.map D.loc by rw [← hz1, List.map_map]; rfl]
      exact (C1.keep0 f').i) (fun z h2 hz f2 => ?_) (fun h2 f2 L2 => ?_)
    · have F2 := F1.trans f2
      obtain ⟨c1, c2⟩ := hzs z hz
      simp [(c1.keep0 F2).i]
      refine olders_ok (by have := n3 _ c2; simp; omega) (fun h' f' => ((c1.keep0 F2).keep0 f').i) (by simp) fun h3 f3 L3 => ?_
      simp [L3.i, queueD]
      exact f3
    have L2' : Ls h2 h1.length (queues.map fun q => queueD (q.map Part.older)) := by
      rw [List.filter_eq_self.mpr (by simp)] at L2
      rw [← hz2, List.map_map]
      exact L2
    have M2 := M1.keep0 f2
    simp [L2'.i, M2.i]
    refine wLc_pureM (fun n : Int => decide (n < p.apart)) (fun n => .int n) (by simp; omega) (fun h' f' => (M2.keep0 f').i) (fun n h3 hn f3 => ?_) (fun h3 f3 L3 => ?_)
    · simp
    have F3 := (F1.trans f2).trans f3
    have S3 := LS.keep0 F3
    have pp : 0 < p.period := by have := hp.period; omega
    have T3 := ((L.keep0 f1).keep0 f2).keep0 f3
    simp [L3.i, pp, T3.i, S3.i]
    refine olders_ok (by simp; omega) (fun h' f' => (S3.keep0 f').i) (by simp) fun h4 f4 L4 => ?_
    simp [L4.i]
    have e : D.tup [.int ((phase + 1) % p.period), .tup ((ago.filter fun n => decide (n < p.apart)).map fun n => .int n), .tup (bays.map fun b => bayD b.older), .tup (queues.map fun q => queueD (q.map Part.older)), .tup (gate.map fun x => x.older.d)] = (p.closed phase strikes bays queues gate struck).d := by
      rw [← hago]
      simp [Pl.closed, Sta.d, Function.comp_def]
    rw [e]
    exact q h4 (F3.trans f4)
end
end MP

/-! text SP7 -/
set_option Elab.async false
set_option linter.all false
set_option maxRecDepth 100000
set_option maxHeartbeats 4000000
namespace MP
open PySem PySem.Spec PyProof.Rows
open L2 hiding St
/-! ### a moment of the line, as data -/
structure Mo where
  bays : List Bay
  queues : List (List Part)
  rows : List Row
def Pl.names (p : Pl) : List Str := p.rows.map Stn.name
def Pl.coming (p : Pl) (phase : Int) : List Nat := (List.range p.orders.length).filter fun k => decide (((p.orders[k]?).map Order.phase).getD 0 = phase)
def freshAt (tags : List Int) (i k : Nat) : Part := ⟨k, 0, 0, 0, tags[i]?⟩
def Pl.fresh (p : Pl) (phase : Int) (tags : List Int) : List Part := (p.coming phase).mapIdx (freshAt tags)
def came (x : Part) : Row := ⟨"came", some x, none, x.ord⟩
def Pl.struck (p : Pl) (word : Str) (m : Mo) : Mo :=
  if word ∈ p.names then
    let i := p.names.idxOf word
    { m with bays := m.bays.modify i fun b => { b with broken := (p.row i).repair }, rows := m.rows ++ [⟨"struck", none, some i, (p.row i).repair⟩] }
  else m
def Mo.qlen (m : Mo) (k : Nat) : Nat := ((m.queues[k]?).getD []).length
def Mo.push (m : Mo) (k : Nat) (x : Part) : Mo := { m with queues := m.queues.modify k (· ++ [x]), rows := m.rows ++ [⟨"queued", some x, some k, (m.qlen k + 1 : Nat)⟩] }
def Pl.enter1 (p : Pl) (s : Mo × List Part) (x : Part) : Mo × List Part :=
  if (s.1.qlen (p.goal x) : Int) < (p.row (p.goal x)).room then (s.1.push (p.goal x) x, s.2) else (s.1, s.2 ++ [x])
def Pl.begin1 (p : Pl) (m : Mo) (k : Nat) : Mo := match m.bays[k]?, m.queues[k]? with
  | some b, some (x :: q) => if b.broken = 0 ∧ b.hold = none then { bays := m.bays.set k (p.begin k b x).1, queues := m.queues.set k q, rows := m.rows ++ (p.begin k b x).2 } else m
  | _, _ => m
def Pl.work1 (p : Pl) (word : Str) (m : Mo) (k : Nat) : Mo := match m.bays[k]? with
  | some b => { m with bays := m.bays.set k (p.work k b word).1, rows := m.rows ++ (p.work k b word).2 }
  | none => m
def Mo.free (m : Mo) (k : Nat) : Mo := { m with bays := m.bays.modify k fun b => { b with hold := none } }
def Pl.out1 (p : Pl) (m : Mo) (k : Nat) : Mo := match (m.bays[k]?).bind Bay.hold with
  | some (x, left) => if left = 0 then
      if x.step = (p.way x).length then ({ m with rows := m.rows ++ [⟨"done", some x, some k, x.age + 1⟩] } : Mo).free k
      else if p.goal x = k ∨ (m.qlen (p.goal x) : Int) < (p.row (p.goal x)).room then (m.push (p.goal x) x).free k
      else m
    else m
  | none => m
def Pl.mo0 (p : Pl) (s : Sta) (word : Str) (tags : List Int) : Mo :=
  let m := p.struck word ⟨s.bays, s.queues, []⟩
  { m with rows := m.rows ++ (p.fresh s.phase tags).map came }
def Pl.mo1 (p : Pl) (s : Sta) (word : Str) (tags : List Int) : Mo × List Part := (s.gate ++ p.fresh s.phase tags).foldl p.enter1 (p.mo0 s word tags, [])
def Pl.mo2 (p : Pl) (s : Sta) (word : Str) (tags : List Int) : Mo := (List.range p.rows.length).foldl p.begin1 (p.mo1 s word tags).1
def Pl.mo3 (p : Pl) (s : Sta) (word : Str) (tags : List Int) : Mo := (List.range p.rows.length).foldl (p.work1 word) (p.mo2 s word tags)
def Pl.outs (p : Pl) (i : Nat) (m : Mo) : Mo := (List.range i).foldl (fun m j => p.out1 m (p.rows.length - 1 - j)) m
def Pl.mo4 (p : Pl) (s : Sta) (word : Str) (tags : List Int) : Mo := p.outs p.rows.length (p.mo3 s word tags)
def Pl.next (p : Pl) (s : Sta) (word : Str) (tags : List Int) : Sta :=
  let m := p.mo4 s word tags
  p.closed s.phase s.strikes m.bays m.queues (p.mo1 s word tags).2 (!decide (word = "-"))
def Pl.told (p : Pl) (s : Sta) (word : Str) (tags : List Int) : List Row := (p.mo4 s word tags).rows

/-! ### what stays right -/
structure MoOk (p : Pl) (m : Mo) (qb rb : Nat) : Prop where
  bl : m.bays.length = p.rows.length
  ql : m.queues.length = p.rows.length
  hold : ∀ b ∈ m.bays, HoldOk p b.hold ∧ PyData.strOk b.kind = true
  part : ∀ q ∈ m.queues, (∀ x ∈ q, PartOk p x) ∧ q.length ≤ qb
  rows : m.rows.length ≤ rb
section
variable {p : Pl}
theorem MoOk.mono {m : Mo} {qb rb qb' rb' : Nat} (o : MoOk p m qb rb) (h1 : qb ≤ qb') (h2 : rb ≤ rb') : MoOk p m qb' rb' := ⟨o.bl, o.ql, o.hold, fun q hq => ⟨(o.part q hq).1, Nat.le_trans (o.part q hq).2 h1⟩, Nat.le_trans o.rows h2⟩
theorem mem_modify {α : Type} {xs : List α} {i : Nat} {f : α → α} {y : α} (h : y ∈ xs.modify i f) : y ∈ xs ∨ ∃ x, xs[i]? = some x ∧ y = f x := by
  obtain ⟨j, hj⟩ := List.getElem?_of_mem h
  rw [List.getElem?_modify] at hj
  cases e : xs[j]? with
  | none => rw [e] at hj; cases hj
  | some x =>
    rw [e] at hj
    by_cases hij : i = j
    · subst hij
      simp at hj
      exact .inr ⟨x, e, hj.symm⟩
    · simp [hij] at hj
      subst hj
      exact .inl (List.mem_of_getElem? e)
theorem MoOk.push {m : Mo} {qb rb k : Nat} {x : Part} (o : MoOk p m qb rb) (hx : PartOk p x) : MoOk p (m.push k x) (qb + 1) (rb + 1) where
  bl := o.bl
  ql := by simp [Mo.push, o.ql]
  hold := o.hold
  part := fun q hq => by
    rcases mem_modify hq with hq | ⟨q', hq', rfl⟩
    · exact ⟨(o.part q hq).1, by have := (o.part q hq).2; omega⟩
    · have := o.part q' (List.mem_of_getElem? hq')
      refine ⟨fun y hy => ?_, by simp; omega⟩
      rcases List.mem_append.mp hy with hy | hy
      · exact this.1 y hy
      · rw [List.mem_singleton.mp hy]; exact hx
  rows := by simp [Mo.push]; exact o.rows
theorem MoOk.free {m : Mo} {qb rb k : Nat} (o : MoOk p m qb rb) : MoOk p (m.free k) qb rb where
  bl := by simp [Mo.free, o.bl]
  ql := o.ql
  hold := fun b hb => by
    rcases mem_modify hb with hb | ⟨b', hb', rfl⟩
    · exact o.hold b hb
    · exact ⟨trivial, (o.hold b' (List.mem_of_getElem? hb')).2⟩
  part := o.part
  rows := o.rows
theorem MoOk.enter1 {m : Mo} {st : List Part} {qb rb : Nat} {x : Part} (o : MoOk p m qb rb) (hx : PartOk p x) : MoOk p (p.enter1 (m, st) x).1 (qb + 1) (rb + 1) := by
  unfold Pl.enter1
  split
  · exact o.push hx
  · exact o.mono (by omega) (by omega)
theorem kindOf_ok (hp : PlOk p) {x : Part} (h : x.ord < p.orders.length) : PyData.strOk (p.kindOf x) = true := by
  obtain ⟨y, hy, e⟩ := List.mem_map.mp (Pl.kind_mem hp h)
  rw [← e]; exact (hp.route y hy).nm.ok
theorem begin_hold (hp : PlOk p) {k : Nat} {b : Bay} {x : Part} (hx : PartOk p x) : HoldOk p (p.begin k b x).1.hold ∧ PyData.strOk (p.begin k b x).1.kind = true ∧ (p.begin k b x).2.length ≤ 2 := by
  have w := ((Pl.way_steps hp hx.ord).2.2 _ _ (Pl.way_at hx.step)).work
  have h : HoldOk p (some (x, (p.now x).work)) := ⟨hx.ord, by omega, fun _ => hx.step, Nat.le_of_lt hx.step⟩
  unfold Pl.begin
  dsimp only
  split
  · exact ⟨h, kindOf_ok hp hx.ord, by simp⟩
  · exact ⟨h, kindOf_ok hp hx.ord, by simp⟩
theorem MoOk.begin1 (hp : PlOk p) {m : Mo} {qb rb k : Nat} (o : MoOk p m qb rb) : MoOk p (p.begin1 m k) qb (rb + 2) := by
  unfold Pl.begin1
  split
  · rename_i b x q hb hq
    split
    · have hx := o.part _ (List.mem_of_getElem? hq)
      have hb' := begin_hold hp (k := k) (b := b) (hx.1 x List.mem_cons_self)
      exact {
        bl := by simp [o.bl]
        ql := by simp [o.ql]
        hold := fun b' hb'' => by
          rcases List.mem_or_eq_of_mem_set hb'' with h | h
          · exact o.hold b' h
          · rw [h]; exact ⟨hb'.1, hb'.2.1⟩
        part := fun q' hq' => by
          rcases List.mem_or_eq_of_mem_set hq' with h | h
          · exact o.part q' h
          · rw [h]; exact ⟨fun y hy => hx.1 y (List.mem_cons_of_mem _ hy), by have := hx.2; simp at this; omega⟩
        rows := by have := o.rows; have := hb'.2.2; simp; omega }
    · exact o.mono (by omega) (by omega)
  · exact o.mono (by omega) (by omega)
theorem work_hold (hp : PlOk p) {k : Nat} {b : Bay} {word : Str} (hb : HoldOk p b.hold) (hk : PyData.strOk b.kind = true) : HoldOk p (p.work k b word).1.hold ∧ PyData.strOk (p.work k b word).1.kind = true ∧ (p.work k b word).2.length ≤ 1 := by
  unfold Pl.work
  split
  · exact ⟨hb, hk, by simp⟩
  split
  · exact ⟨hb, hk, by simp⟩
  split
  · rename_i e; exact ⟨by rw [e]; trivial, hk, by simp⟩
  · rename_i x left e
    rw [e] at hb
    obtain ⟨h1, h2, h3, h4⟩ := hb
    split
    · rename_i hl
      have h3 := h3 hl
      dsimp only
      split
      · split
        · refine ⟨⟨h1, by omega, fun z => absurd z (by omega), ?_⟩, hk, by simp⟩
          have w := ((Pl.way_steps hp h1).2.2 _ _ (Pl.way_at h3)).back
          show (p.now x).back.getD 0 ≤ (p.way x).length
          cases z : (p.now x).back with
          | none => simp
          | some b' => have := w b' z; simp; omega
        · exact ⟨⟨h1, by omega, fun z => absurd z (by omega), by show x.step + 1 ≤ (p.way x).length; omega⟩, hk, by simp⟩
      · exact ⟨⟨h1, by omega, fun _ => h3, h4⟩, hk, by simp⟩
    · exact ⟨by show HoldOk p b.hold; rw [e]; exact ⟨h1, h2, h3, h4⟩, hk, by simp⟩
theorem MoOk.work1 (hp : PlOk p) {m : Mo} {word : Str} {qb rb k : Nat} (o : MoOk p m qb rb) : MoOk p (p.work1 word m k) qb (rb + 1) := by
  unfold Pl.work1
  split
  · rename_i b hb
    have hb' := o.hold b (List.mem_of_getElem? hb)
    have w := work_hold hp (k := k) (word := word) hb'.1 hb'.2
    exact {
      bl := by simp [o.bl]
      ql := o.ql
      hold := fun b' hb'' => by
        rcases List.mem_or_eq_of_mem_set hb'' with h | h
        · exact o.hold b' h
        · rw [h]; exact ⟨w.1, w.2.1⟩
      part := o.part
      rows := by have := o.rows; have := w.2.2; simp; omega }
  · exact o.mono (by omega) (by omega)
theorem MoOk.out1 {m : Mo} {qb rb k : Nat} (o : MoOk p m qb rb) : MoOk p (p.out1 m k) (qb + 1) (rb + 1) := by
  unfold Pl.out1
  split
  · rename_i x left e
    split
    · rename_i hl
      cases eb : m.bays[k]? with
      | none => rw [eb] at e; cases e
      | some b =>
      rw [eb] at e
      have hb := (o.hold b (List.mem_of_getElem? eb)).1
      have e : b.hold = some (x, left) := e
      rw [e] at hb
      split
      · exact MoOk.free (m := { m with rows := _ }) ⟨o.bl, o.ql, o.hold, fun q hq => ⟨(o.part q hq).1, by have := (o.part q hq).2; omega⟩, by have := o.rows; simp; omega⟩
      · rename_i hs
        split
        · exact (o.push ⟨hb.1, by have := hb.2.2.2; omega⟩).free
        · exact o.mono (by omega) (by omega)
    · exact o.mono (by omega) (by omega)
  · exact o.mono (by omega) (by omega)
/-- the line's state -/
structure StaOk (p : Pl) (s : Sta) (gb qb : Nat) : Prop where
  bl : s.bays.length = p.rows.length
  ql : s.queues.length = p.rows.length
  hold : ∀ b ∈ s.bays, HoldOk p b.hold ∧ PyData.strOk b.kind = true
  part : ∀ q ∈ s.queues, (∀ x ∈ q, PartOk p x) ∧ q.length ≤ qb
  gate : ∀ x ∈ s.gate, PartOk p x
  glen : s.gate.length ≤ gb
  slen : s.strikes.length ≤ gb
end
end MP

/-! text SP8 -/
set_option Elab.async false
set_option linter.all false
set_option maxRecDepth 100000
set_option maxHeartbeats 4000000
namespace MP
open PySem PySem.Spec PyProof.Rows
open L2 hiding St
/-! ### a moment's places -/
structure Lay (B C R : Nat) (bl ql : List Nat) : Prop where
  bnd : bl.Nodup
  qnd : ql.Nodup
  dis : ∀ l ∈ bl, l ∉ ql
  br : R ∉ bl
  qr : R ∉ ql
  Bb : B ∉ bl
  Bq : B ∉ ql
  BR : B ≠ R
  Cb : C ∉ bl
  Cq : C ∉ ql
  CR : C ≠ R
structure MoH (h : Hs) (B C R : Nat) (bl ql : List Nat) (m : Mo) : Prop where
  lb : Ls h B (bl.map D.loc)
  lc : Ls h C (ql.map D.loc)
  pb : Pts Bay.ds h bl m.bays
  pc : Pts (fun q : List Part => q.map Part.d) h ql m.queues
  lr : Ls h R (m.rows.map Row.d)
section
variable {h h' : Hs} {B C R : Nat} {bl ql : List Nat} {m : Mo}
theorem nodup_ne {α : Type} {xs : List α} {i j : Nat} {x y : α} (nd : xs.Nodup) (hi : xs[i]? = some x) (hj : xs[j]? = some y) (hn : i ≠ j) : x ≠ y := by
  intro e
  subst e
  obtain ⟨a, a'⟩ := List.getElem?_eq_some_iff.mp hi
  obtain ⟨b, b'⟩ := List.getElem?_eq_some_iff.mp hj
  exact hn ((List.getElem_inj nd).mp (a'.trans b'.symm))
theorem MoH.keep0 (a : MoH h B C R bl ql m) (f : Fm [] h h') : MoH h' B C R bl ql m := ⟨a.lb.keep0 f, a.lc.keep0 f, a.pb.keep0 f, a.pc.keep0 f, a.lr.keep0 f⟩
theorem Pts.keep {α : Type} {enc : α → List D} {ls : List Nat} {xs : List α} {ms : List Nat} (a : Pts enc h ls xs) (f : Fm ms h h') (n : ∀ l ∈ ls, l ∉ ms) : Pts enc h' ls xs := ⟨a.len, fun i l x e e' => (a.at_ i l x e e').keep f (n l (List.mem_of_getElem? e))⟩
theorem Pts.set {α : Type} {enc : α → List D} {ls : List Nat} {xs : List α} {ms : List Nat} {k l : Nat} {x' : α} (a : Pts enc h ls xs) (f : Fm ms h h') (nd : ls.Nodup) (hk : ls[k]? = some l) (n : ∀ y ∈ ls, y ≠ l → y ∉ ms) (L : Ls h' l (enc x')) : Pts enc h' ls (xs.set k x') :=
  ⟨by rw [List.length_set]; exact a.len, fun i l2 x e e' => by
    by_cases hi : i = k
    · subst hi
      rw [hk] at e
      cases e
      have hl : i < xs.length := by rw [← a.len]; exact (List.getElem?_eq_some_iff.mp hk).1
      rw [List.getElem?_set_self hl] at e'
      cases e'
      exact L
    · rw [List.getElem?_set_ne (by omega)] at e'
      exact (a.at_ i l2 x e e').keep f (n l2 (List.mem_of_getElem? e) (nodup_ne nd e hk hi))⟩
theorem MoH.rowsL (Y : Lay B C R bl ql) (a : MoH h B C R bl ql m) (f : Fm [R] h h') {rows : List Row} (L : Ls h' R (rows.map Row.d)) : MoH h' B C R bl ql { m with rows := rows } :=
  ⟨a.lb.keep f (by simpa using Y.BR), a.lc.keep f (by simpa using Y.CR), a.pb.keep f fun l hl => by simp; rintro rfl; exact Y.br hl, a.pc.keep f fun l hl => by simp; rintro rfl; exact Y.qr hl, L⟩
theorem MoH.bayR (Y : Lay B C R bl ql) (a : MoH h B C R bl ql m) {k l : Nat} (hk : bl[k]? = some l) (f : Fm [l, R] h h') {b : Bay} {rows : List Row} (Lb : Ls h' l b.ds) (L : Ls h' R (rows.map Row.d)) : MoH h' B C R bl ql { m with bays := m.bays.set k b, rows := rows } :=
  have hl := List.mem_of_getElem? hk
  ⟨a.lb.keep f (by simp; exact ⟨fun e => Y.Bb (e ▸ hl), Y.BR⟩), a.lc.keep f (by simp; exact ⟨fun e => Y.Cb (e ▸ hl), Y.CR⟩),
    a.pb.set f Y.bnd hk (fun y hy n => by simp; exact ⟨n, fun e => Y.br (e ▸ hy)⟩) Lb, a.pc.keep f fun y hy => by simp; exact ⟨fun e => Y.dis l hl (e ▸ hy), fun e => Y.qr (e ▸ hy)⟩, L⟩
theorem MoH.bay (Y : Lay B C R bl ql) (a : MoH h B C R bl ql m) {k l : Nat} (hk : bl[k]? = some l) (f : Fm [l] h h') {b : Bay} (Lb : Ls h' l b.ds) : MoH h' B C R bl ql { m with bays := m.bays.set k b } :=
  have hl := List.mem_of_getElem? hk
  ⟨a.lb.keep f (by simp; exact fun e => Y.Bb (e ▸ hl)), a.lc.keep f (by simp; exact fun e => Y.Cb (e ▸ hl)),
    a.pb.set f Y.bnd hk (fun y hy n => by simpa using n) Lb, a.pc.keep f fun y hy => by simp; exact fun e => Y.dis l hl (e ▸ hy), a.lr.keep f (by simp; exact fun e => Y.br (e ▸ hl))⟩
theorem MoH.que (Y : Lay B C R bl ql) (a : MoH h B C R bl ql m) {k l : Nat} (hk : ql[k]? = some l) (f : Fm [l] h h') {q : List Part} (Lq : Ls h' l (q.map Part.d)) : MoH h' B C R bl ql { m with queues := m.queues.set k q } :=
  have hl := List.mem_of_getElem? hk
  ⟨a.lb.keep f (by simp; exact fun e => Y.Bq (e ▸ hl)), a.lc.keep f (by simp; exact fun e => Y.Cq (e ▸ hl)),
    a.pb.keep f fun y hy => by simp; exact fun e => Y.dis y hy (e ▸ hl), a.pc.set f Y.qnd hk (fun y hy n => by simpa using n) Lq, a.lr.keep f (by simp; exact fun e => Y.qr (e ▸ hl))⟩
/-- all the moment's places -/
abbrev allP (B C R : Nat) (bl ql : List Nat) : List Nat := B :: C :: R :: (bl ++ ql)
theorem MoH.out {ms : List Nat} (a : MoH h B C R bl ql m) (f : Fm ms h h') (n : ∀ l ∈ ms, l ∉ allP B C R bl ql) : MoH h' B C R bl ql m :=
  ⟨a.lb.keep f fun z => n _ z (by simp), a.lc.keep f fun z => n _ z (by simp), a.pb.keep f fun l hl z => n _ z (by simp [hl]), a.pc.keep f fun l hl z => n _ z (by simp [hl]), a.lr.keep f fun z => n _ z (by simp)⟩
theorem modify_at {α : Type} {xs : List α} {k : Nat} {x : α} {f : α → α} (e : xs[k]? = some x) : xs.modify k f = xs.set k (f x) := by
  refine List.ext_getElem? fun i => ?_
  rw [List.getElem?_modify, List.getElem?_set]
  by_cases hi : k = i
  · subst hi
    have := (List.getElem?_eq_some_iff.mp e).1
    have e' := (List.getElem?_eq_some_iff.mp e).2
    simp [this, e']
  · simp [hi]
end
/-- the names' slots in the moment's body -/
@[reducible] def mR (pd sd wd td : D) (B C K : Nat) (o7 : Option D) (Y : Option D) (o9 o10 : Option D) (ph sk gt : D) (R N I : Nat) : Rho :=
  [some pd, some sd, some wd, some td, some (.loc B), some (.loc C), some (.loc K), o7, Y, o9, o10, some ph, some sk, some gt, some (.loc R), some (.loc N), some (.loc I), none, none, none]
section
variable {p : Pl} {h : Hs} {B C R K Y N I : Nat} {bl ql : List Nat} {m : Mo} {sd wd td ph sk gt : D} {o7 o9 o10 : Option D} {Q : QS}
theorem MoH.push {h h' : Hs} (Z : Lay B C R bl ql) (a : MoH h B C R bl ql m) {k : Nat} {x : Part} {q : List Part} {l : Nat} (hq : m.queues[k]? = some q) (hl : ql[k]? = some l) (f : Fm [l, R] h h') (Lq : Ls h' l ((q ++ [x]).map Part.d)) (Lr : Ls h' R ((m.rows ++ [Row.mk "queued" (some x) (some k) ((q.length + 1 : Nat) : Int)]).map Row.d)) : MoH h' B C R bl ql (m.push k x) := by
  have hm := List.mem_of_getElem? hl
  have e : m.push k x = { m with queues := m.queues.set k (q ++ [x]), rows := m.rows ++ [Row.mk "queued" (some x) (some k) ((q.length + 1 : Nat) : Int)] } := by
    unfold Mo.push Mo.qlen
    rw [modify_at hq, hq]
    rfl
  rw [e]
  exact ⟨a.lb.keep f (by simp; exact ⟨fun e => Z.Bq (e ▸ hm), Z.BR⟩), a.lc.keep f (by simp; exact ⟨fun e => Z.Cq (e ▸ hm), Z.CR⟩),
    a.pb.keep f (fun y hy => by simp; exact ⟨fun e => Z.dis y hy (e ▸ hm), fun e => Z.br (e ▸ hy)⟩), a.pc.set f Z.qnd hl (fun y hy n => by simp; exact ⟨n, fun e => Z.qr (e ▸ hy)⟩) Lq, Lr⟩
theorem enter_step {x : Part} {st : List Part} {qb rb : Nat} (hp : PlOk p) (hx : PartOk p x) (Z : Lay B C R bl ql) (o : MoOk p m qb rb) (H : MoH h B C R bl ql m) (LY : Ls h Y (st.map Part.d)) (yn : Y ∉ allP B C R bl ql) (q1 : qb ≤ 10000000) (q2 : rb ≤ 10000000) (q3 : st.length ≤ 10000000)
    (q : ∀ h', Fm (Y :: R :: (bl ++ ql)) h h' → MoH h' B C R bl ql (p.enter1 (m, st) x).1 → Ls h' Y ((p.enter1 (m, st) x).2.map Part.d) → Q .nx (mR p.d sd wd td B C K o7 (some (.loc Y)) (some x.d) (some (.int (p.goal x))) ph sk gt R N I) h') :
    wS (sSeq (sSet (mCallF 2 F_law_goal (aCons (mVar 0) (aCons (mVar 9) aNil))) (gVar 10)) (sSeq (sIf (bBool (mOp2 ltO (mCallN lenN (aCons (mOp2 ixO (mVar 5) (mVar 10)) aNil)) (mOp2 ixO (mOp2 ixO (mOp2 ixO (mVar 0) (mC (.int 0))) (mVar 10)) (mC (.int 1))))) (sSeq (sExpr (mMeth isLst appendM (mOp2 ixO (mVar 5) (mVar 10)) (aCons (mVar 9) aNil))) (sSeq (sExpr (mMeth isLst appendM (mVar 14) (aCons (mTup (aCons (mC (.str "queued")) (aCons (mVar 9) (aCons (mVar 10) (aCons (mCallN lenN (aCons (mOp2 ixO (mVar 5) (mVar 10)) aNil)) aNil))))) aNil))) sNext)) (sSeq (sExpr (mMeth isLst appendM (mVar 8) (aCons (mVar 9) aNil))) sNext)) sNext)) (mR p.d sd wd td B C K o7 (some (.loc Y)) (some x.d) o10 ph sk gt R N I) h Q := by
  have yR : Y ≠ R := fun e => yn (by simp [e])
  have yq : Y ∉ ql := fun e => yn (by simp [e])
  simp
  refine goal_ok hp hx fun h1 f1 => ?_
  have H1 := H.keep0 f1
  have Y1 := LY.keep0 f1
  have hg := goal_lt hp hx
  have hrow := Pl.row_at hg
  obtain ⟨qu, hq⟩ : ∃ qu, m.queues[p.goal x]? = some qu := ⟨_, List.getElem?_eq_getElem (by rw [o.ql]; exact hg)⟩
  obtain ⟨l, hl, Lq⟩ := H1.pc.get hq
  have hlm := List.mem_of_getElem? hl
  have ql1 : qu.length ≤ qb := (o.part qu (List.mem_of_getElem? hq)).2
  have lR : l ≠ R := fun e => Z.qr (e ▸ hlm)
  have lC : l ≠ C := fun e => Z.Cq (e ▸ hlm)
  have z1 := Lq.l; have z2 := Lq.lt; have z3 := H1.lr.l; have z4 := H1.lr.lt; have z5 := Y1.l; have z6 := Y1.lt
  have r1 := o.rows
  have w1 : qu.length < 16777216 := by omega
  have w2 : m.rows.length < 16777216 := by omega
  have w3 : st.length < 16777216 := by omega
  have eql : m.qlen (p.goal x) = qu.length := by unfold Mo.qlen; rw [hq]; rfl
  simp [H1.lc.i, hl, Lq.i, hrow]
  by_cases c : (qu.length : Int) < (p.row (p.goal x)).room
  · simp [c, z1, z2, z3, z4, w1, w2, H1.lc.i, hl, lR, lC, Ne.symm lR]
    have e1 : (p.enter1 (m, st) x).1 = m.push (p.goal x) x := by unfold Pl.enter1; simp only [eql]; rw [if_pos c]
    have e2 : (p.enter1 (m, st) x).2 = st := by unfold Pl.enter1; simp only [eql]; rw [if_pos c]
    rw [e1, e2] at q
    have F : ∀ a b, Fm [l, R] h ((h1.set l a).set R b) := fun a b => (f1.of0.set _ (.inl (by simp))).set _ (.inl (by simp))
    have F1 : ∀ a b, Fm [l, R] h1 ((h1.set l a).set R b) := fun a b => ((Fm.refl _ _).set _ (.inl (by simp))).set _ (.inl (by simp))
    refine q _ ((F _ _).mono (by simp; exact .inr (.inr (.inr hlm)))) ?_ ?_
    · refine H1.push Z hq hl (F1 _ _) ?_ ?_
      · unfold Ls; simp [List.getElem?_set, Ne.symm lR, z2, z4]
      · unfold Ls; simp [List.getElem?_set, z4, Row.d]
    · exact Y1.keep (F1 _ _) (by simp; exact ⟨fun e => yq (e ▸ hlm), yR⟩)
  · simp [c, z5, z6, w3]
    have e1 : (p.enter1 (m, st) x).1 = m := by unfold Pl.enter1; simp only [eql]; rw [if_neg c]
    have e2 : (p.enter1 (m, st) x).2 = st ++ [x] := by unfold Pl.enter1; simp only [eql]; rw [if_neg c]
    rw [e1, e2] at q
    refine q _ (Fm.set f1.of0 _ (.inl (by simp))) ?_ (by simpa using Y1.set (st.map Part.d ++ [x.d]))
    exact H1.out (ms := [Y]) (Fm.set (Fm.refl _ _) _ (.inl (by simp))) (by simpa using yn)
/-- a bay begins -/
theorem begin_step {k : Nat} {o8 : Option D} {qb rb : Nat} (hp : PlOk p) (hk : k < p.rows.length) (Z : Lay B C R bl ql) (o : MoOk p m qb rb) (H : MoH h B C R bl ql m) (q1 : qb ≤ 10000000) (q2 : rb ≤ 100000)
    (q : ∀ h', Fm (R :: (bl ++ ql)) h h' → MoH h' B C R bl ql (p.begin1 m k) → Q .nx (mR p.d sd wd td B C K o7 o8 o9 (some (.int k)) ph sk gt R N I) h') :
    wS (sSeq (sIf (bAnd (bBool (mOp2 eqO (mOp2 ixO (mOp2 ixO (mVar 4) (mVar 10)) (mC (.int 0))) (mC (.int 0)))) (bAnd (bBool (mOp2 isO (mOp2 ixO (mOp2 ixO (mVar 4) (mVar 10)) (mC (.int 4))) (mC .non))) (bBool (mOp2 neO (mOp2 ixO (mVar 5) (mVar 10)) (mLst aNil))))) (sSeq (sExpr (mCallF 5 F_law_begin (aCons (mVar 0) (aCons (mVar 10) (aCons (mOp2 ixO (mVar 4) (mVar 10)) (aCons (mMeth isLst popM (mOp2 ixO (mVar 5) (mVar 10)) (aCons (mC (.int 0)) aNil)) (aCons (mVar 14) aNil))))))) sNext) sNext) sNext) (mR p.d sd wd td B C K o7 o8 o9 (some (.int k)) ph sk gt R N I) h Q := by
  obtain ⟨b, hb⟩ : ∃ b, m.bays[k]? = some b := ⟨_, List.getElem?_eq_getElem (by rw [o.bl]; exact hk)⟩
  obtain ⟨qu, hq⟩ : ∃ qu, m.queues[k]? = some qu := ⟨_, List.getElem?_eq_getElem (by rw [o.ql]; exact hk)⟩
  obtain ⟨l, hl, Lb⟩ := H.pb.get hb
  obtain ⟨l2, hl2, Lq⟩ := H.pc.get hq
  have hlm := List.mem_of_getElem? hl
  have hlm2 := List.mem_of_getElem? hl2
  have lR : l ≠ R := fun e => Z.br (e ▸ hlm)
  have l2R : l2 ≠ R := fun e => Z.qr (e ▸ hlm2)
  have l2l : l2 ≠ l := fun e => Z.dis l hlm (e ▸ hlm2)
  have bo := o.hold b (List.mem_of_getElem? hb)
  have qo := o.part qu (List.mem_of_getElem? hq)
  have Lb' : Ls h l [.int b.broken, .int b.busy, .int b.used, .str b.kind, holdD b.hold] := Lb
  have same : ¬ (b.broken = 0 ∧ b.hold = none) → p.begin1 m k = m := fun c => by
    unfold Pl.begin1
    rw [hb, hq]
    cases qu with
    | nil => rfl
    | cons x xs => simp only [if_neg c]
  simp [H.lb.i, hl, Lb'.i]
  by_cases c1 : b.broken = 0
  · by_cases c2 : b.hold = none
    · simp [c1, c2, H.lc.i, hl2]
      have F0 : Fm [] h (h ++ [.lst []]) := (Fm.refl _ _).app _
      have hpl : (qu.map Part.d).all (plain 3) = true := by
        rw [List.all_map, List.all_eq_true]
        intro x hx
        show ((.int x.ord :: .int x.step :: .int x.age :: .int x.again :: x.tag.toList.map D.int : List D)).all (plain 2) = true
        cases x.tag <;> rfl
      have e := ne_nilL (h := h ++ [.lst []]) (Lq.keep0 F0).i (Ls.new h []).i (by omega) hpl
      have H0 := H.keep0 F0
      have Lq0 := Lq.keep0 F0
      have Lb0 := Lb.keep0 F0
      generalize h ++ [AO.lst []] = h0 at *
      rw [show h.length = h.length from rfl] at e
      simp [e]
      cases qu with
      | nil =>
        simp
        have e1 : p.begin1 m k = m := by unfold Pl.begin1; rw [hb, hq]
        rw [e1] at q
        exact q h0 F0.of0 H0
      | cons x xs =>
        have hx := qo.1 x List.mem_cons_self
        have e1 : p.begin1 m k = { bays := m.bays.set k (p.begin k b x).1, queues := m.queues.set k xs, rows := m.rows ++ (p.begin k b x).2 } := by unfold Pl.begin1; rw [hb, hq]; simp only [if_pos (And.intro c1 c2)]
        rw [e1] at q
        simp [H0.lb.i, hl, H0.lc.i, hl2, isLst_of Lq0]
        have z1 : h0[l2]? = some (.lst ((x :: xs).map Part.d)) := Lq0
        unfold popM
        simp [z1, seqIndex?]
        have F1 : Fm [l2] h0 (h0.set l2 (.lst (xs.map Part.d))) := (Fm.refl _ _).set _ (.inl (by simp))
        have H1 := H0.que Z hl2 F1 (Lq0.set (xs.map Part.d))
        have Lb1 := Lb0.oth (m := l2) (o := .lst (xs.map Part.d)) l2l
        have Lr1 := H1.lr
        have r1 := o.rows
        generalize h0.set l2 (.lst (xs.map Part.d)) = h1 at *
        refine begin_ok hp hk hx bo.2 Lb1 Lr1 lR (by show m.rows.length ≤ 100000; omega) fun h2 f2 L2 M2 => ?_
        refine q h2 ?_ ?_
        · refine ((F0.of0.then1 F1 (.inl ?_)).then f2 ?_)
          · simp; exact .inr (.inr hlm2)
          · intro y hy
            left
            simp at hy ⊢
            rcases hy with rfl | rfl
            · exact .inr (.inl hlm)
            · exact .inl rfl
        · exact H1.bayR Z hl f2 L2 M2
    · simp [c1, c2]
      rw [same (by simp [c2])] at q
      exact q h (Fm.refl _ _) H
  · simp [c1]
    rw [same (by simp [c1])] at q
    exact q h (Fm.refl _ _) H
/-- a bay's work -/
theorem work_step {k : Nat} {word : Str} {o8 : Option D} {qb rb : Nat} (hp : PlOk p) (hk : k < p.rows.length) (hbk : ∀ b, m.bays[k]? = some b → BackOk p k b word) (Z : Lay B C R bl ql) (o : MoOk p m qb rb) (H : MoH h B C R bl ql m) (q2 : rb ≤ 100000)
    (q : ∀ h', Fm (R :: (bl ++ ql)) h h' → MoH h' B C R bl ql (p.work1 word m k) → Q .nx (mR p.d sd (.str word) td B C K o7 o8 o9 (some (.int k)) ph sk gt R N I) h') :
    wS (sSeq (sExpr (mCallF 5 F_law_work (aCons (mVar 0) (aCons (mVar 10) (aCons (mOp2 ixO (mVar 4) (mVar 10)) (aCons (mVar 2) (aCons (mVar 14) aNil))))))) sNext) (mR p.d sd (.str word) td B C K o7 o8 o9 (some (.int k)) ph sk gt R N I) h Q := by
  obtain ⟨b, hb⟩ : ∃ b, m.bays[k]? = some b := ⟨_, List.getElem?_eq_getElem (by rw [o.bl]; exact hk)⟩
  obtain ⟨l, hl, Lb⟩ := H.pb.get hb
  have hlm := List.mem_of_getElem? hl
  have lR : l ≠ R := fun e => Z.br (e ▸ hlm)
  have bo := o.hold b (List.mem_of_getElem? hb)
  have r1 := o.rows
  have e1 : p.work1 word m k = { m with bays := m.bays.set k (p.work k b word).1, rows := m.rows ++ (p.work k b word).2 } := by unfold Pl.work1; rw [hb]
  rw [e1] at q
  simp [H.lb.i, hl]
  refine work_ok hp hk bo.1 (hbk b hb) Lb H.lr lR (by omega) fun h2 f2 L2 M2 => ?_
  refine q h2 (f2.mono ?_) (H.bayR Z hl f2 L2 M2)
  intro y hy
  simp at hy ⊢
  rcases hy with rfl | rfl
  · exact .inr (.inl hlm)
  · exact .inl rfl
theorem MoH.free {h h' : Hs} (Z : Lay B C R bl ql) (a : MoH h B C R bl ql m) {k l : Nat} {b : Bay} (hb : m.bays[k]? = some b) (hl : bl[k]? = some l) (f : Fm [l] h h') (L : Ls h' l ({ b with hold := none } : Bay).ds) : MoH h' B C R bl ql (m.free k) := by
  have e : m.free k = { m with bays := m.bays.set k { b with hold := none } } := by unfold Mo.free; rw [modify_at hb]
  rw [e]
  exact a.bay Z hl f L
theorem outpush_step {k : Nat} {x : Part} {b : Bay} {o8 : Option D} {qb rb : Nat} (hp : PlOk p) (hk : k < p.rows.length) (hx : PartOk p x) (hb : m.bays[k]? = some b) (Z : Lay B C R bl ql) (o : MoOk p m qb rb) (H : MoH h B C R bl ql m) (q1 : qb ≤ 10000000) (q2 : rb ≤ 10000000)
    (q : ∀ h', Fm (R :: (bl ++ ql)) h h' → MoH h' B C R bl ql ((m.push (p.goal x) x).free k) → Q .nx (mR p.d sd wd td B C K o7 o8 (some x.d) (some (.int k)) ph sk gt R N I) h') :
    wS (sSeq (sExpr (mMeth isLst appendM (mOp2 ixO (mVar 5) (mCallF 2 F_law_goal (aCons (mVar 0) (aCons (mVar 9) aNil)))) (aCons (mVar 9) aNil))) (sSeq (sExpr (mMeth isLst appendM (mVar 14) (aCons (mTup (aCons (mC (.str "queued")) (aCons (mVar 9) (aCons (mCallF 2 F_law_goal (aCons (mVar 0) (aCons (mVar 9) aNil))) (aCons (mCallN lenN (aCons (mOp2 ixO (mVar 5) (mCallF 2 F_law_goal (aCons (mVar 0) (aCons (mVar 9) aNil)))) aNil)) aNil))))) aNil))) (sSeq (sSet (mC .non) (gSubM (mOp2 ixO (mVar 4) (mVar 10)) (mC (.int 4)))) sNext))) (mR p.d sd wd td B C K o7 o8 (some x.d) (some (.int k)) ph sk gt R N I) h Q := by
  obtain ⟨l, hl, Lb⟩ := H.pb.get hb
  have hlm := List.mem_of_getElem? hl
  have lR : l ≠ R := fun e => Z.br (e ▸ hlm)
  have r1 := o.rows
  have RW : R ∈ R :: (bl ++ ql) := by simp
  have w2 : m.rows.length < 16777216 := by omega
  have hg := goal_lt hp hx
  obtain ⟨qu, hq⟩ : ∃ qu, m.queues[p.goal x]? = some qu := ⟨_, List.getElem?_eq_getElem (by rw [o.ql]; exact hg)⟩
  obtain ⟨l2, hl2, Lq⟩ := H.pc.get hq
  have hlm2 := List.mem_of_getElem? hl2
  have l2R : l2 ≠ R := fun e => Z.qr (e ▸ hlm2)
  have l2l : l2 ≠ l := fun e => Z.dis l hlm (e ▸ hlm2)
  have ql1 : qu.length ≤ qb := (o.part qu (List.mem_of_getElem? hq)).2
  have w1 : qu.length < 16777216 := by omega
  simp
  refine goal_ok hp hx fun h1 f1 => ?_
  have H1 := H.keep0 f1
  have Lq1 := Lq.keep0 f1
  have z1 := Lq1.l; have z2 := Lq1.lt
  simp [H1.lc.i, hl2, z1, z2, w1]
  have F1 : Fm [l2] h1 (h1.set l2 (.lst (qu.map Part.d ++ [x.d]))) := (Fm.refl _ _).set _ (.inl (by simp))
  have Lq2 := Lq1.set (qu.map Part.d ++ [x.d])
  have H2 := H1.que Z hl2 F1 (q := qu ++ [x]) (by simpa using Lq2)
  have F2 := f1.of0.then1 (ms := R :: (bl ++ ql)) F1 (.inl (by simp; exact .inr (.inr hlm2)))
  generalize h1.set l2 (.lst (qu.map Part.d ++ [x.d])) = h2 at *
  refine ⟨isLst_of H2.lr, ?_⟩
  refine goal_ok hp hx fun h3 f3 => ?_
  refine goal_ok hp hx fun h4 f4 => ?_
  have f34 := f3.trans f4
  have H4 := H2.keep0 f34
  have Lq4 := Lq2.keep0 f34
  have z3 : lstAt h4 R = some (m.rows.map Row.d) := H4.lr.l
  have z4 := H4.lr.lt
  have H4lb : itemsAt h4 B = some (bl.map D.loc) := H4.lb.i
  have H4lc : itemsAt h4 C = some (ql.map D.loc) := H4.lc.i
  have BR' : B ≠ R := Z.BR
  have Lb4 : Ls h4 l [.int b.broken, .int b.busy, .int b.used, .str b.kind, holdD b.hold] := by
    obtain ⟨l', hl', L'⟩ := H4.pb.get hb
    rw [hl] at hl'
    cases hl'
    exact L'
  have z5 := Lb4.l; have z6 := Lb4.lt
  simp [H4lc, hl2, Lq4.i, z3, z4, w2, Ne.symm BR', H4lb, hl, z5, z6, ixN, Ne.symm lR, lR]
  have F4 : ∀ a, Fm [R] h4 (h4.set R a) := fun a => (Fm.refl _ _).set _ (.inl (by simp))
  have H5 := H4.rowsL Z (F4 _) (rows := m.rows ++ [Row.mk "queued" (some x) (some (p.goal x)) ((qu.length + 1 : Nat) : Int)]) (H4.lr.set _)
  have eP : m.push (p.goal x) x = { m with queues := m.queues.set (p.goal x) (qu ++ [x]), rows := m.rows ++ [Row.mk "queued" (some x) (some (p.goal x)) ((qu.length + 1 : Nat) : Int)] } := by
    unfold Mo.push Mo.qlen
    rw [modify_at hq, hq]
    rfl
  rw [eP] at q
  refine q _ (Fm.set (Fm.set (F2.then0 f34) _ (.inl RW)) _ (.inl (by simp [hlm]))) ?_
  refine MoH.free (b := b) Z (h := h4.set R _) (by simpa [Row.d] using H5) hb hl ((Fm.refl _ _).set _ (.inl (by simp))) ?_
  simpa [Bay.ds] using (Lb4.oth (m := R) (Ne.symm lR)).set (Bay.ds { b with hold := none })
/-- a bay lets its part go -/
theorem out_step {k : Nat} {o8 : Option D} {qb rb : Nat} (hp : PlOk p) (hk : k < p.rows.length) (Z : Lay B C R bl ql) (o : MoOk p m qb rb) (H : MoH h B C R bl ql m) (q1 : qb ≤ 10000000) (q2 : rb ≤ 10000000)
    (q : ∀ h' o9', Fm (R :: (bl ++ ql)) h h' → MoH h' B C R bl ql (p.out1 m k) → Q .nx (mR p.d sd wd td B C K o7 o8 o9' (some (.int k)) ph sk gt R N I) h') :
    wS (sSeq (sIf (bAnd (bBool (mOp2 isNotO (mOp2 ixO (mOp2 ixO (mVar 4) (mVar 10)) (mC (.int 4))) (mC .non))) (bBool (mOp2 eqO (mOp2 ixO (mOp2 ixO (mOp2 ixO (mVar 4) (mVar 10)) (mC (.int 4))) (mC (.int 1))) (mC (.int 0))))) (sSeq (sSet (mOp2 ixO (mOp2 ixO (mOp2 ixO (mVar 4) (mVar 10)) (mC (.int 4))) (mC (.int 0))) (gVar 9)) (sSeq (sIf (bBool (mOp2 eqO (mOp2 ixO (mVar 9) (mC (.int 1))) (mCallN lenN (aCons (mCallF 2 F_law_way (aCons (mVar 0) (aCons (mVar 9) aNil))) aNil)))) (sSeq (sExpr (mMeth isLst appendM (mVar 14) (aCons (mTup (aCons (mC (.str "done")) (aCons (mVar 9) (aCons (mVar 10) (aCons (mOp2 addD (mOp2 ixO (mVar 9) (mC (.int 2))) (mC (.int 1))) aNil))))) aNil))) (sSeq (sSet (mC .non) (gSubM (mOp2 ixO (mVar 4) (mVar 10)) (mC (.int 4)))) sNext)) (sSeq (sIf (bOr (bBool (mOp2 eqO (mCallF 2 F_law_goal (aCons (mVar 0) (aCons (mVar 9) aNil))) (mVar 10))) (bBool (mOp2 ltO (mCallN lenN (aCons (mOp2 ixO (mVar 5) (mCallF 2 F_law_goal (aCons (mVar 0) (aCons (mVar 9) aNil)))) aNil)) (mOp2 ixO (mOp2 ixO (mOp2 ixO (mVar 0) (mC (.int 0))) (mCallF 2 F_law_goal (aCons (mVar 0) (aCons (mVar 9) aNil)))) (mC (.int 1)))))) (sSeq (sExpr (mMeth isLst appendM (mOp2 ixO (mVar 5) (mCallF 2 F_law_goal (aCons (mVar 0) (aCons (mVar 9) aNil)))) (aCons (mVar 9) aNil))) (sSeq (sExpr (mMeth isLst appendM (mVar 14) (aCons (mTup (aCons (mC (.str "queued")) (aCons (mVar 9) (aCons (mCallF 2 F_law_goal (aCons (mVar 0) (aCons (mVar 9) aNil))) (aCons (mCallN lenN (aCons (mOp2 ixO (mVar 5) (mCallF 2 F_law_goal (aCons (mVar 0) (aCons (mVar 9) aNil)))) aNil)) aNil))))) aNil))) (sSeq (sSet (mC .non) (gSubM (mOp2 ixO (mVar 4) (mVar 10)) (mC (.int 4)))) sNext))) sNext) sNext)) sNext)) sNext) sNext) (mR p.d sd wd td B C K o7 o8 o9 (some (.int k)) ph sk gt R N I) h Q := by
  obtain ⟨b, hb⟩ : ∃ b, m.bays[k]? = some b := ⟨_, List.getElem?_eq_getElem (by rw [o.bl]; exact hk)⟩
  obtain ⟨l, hl, Lb⟩ := H.pb.get hb
  have hlm := List.mem_of_getElem? hl
  have lR : l ≠ R := fun e => Z.br (e ▸ hlm)
  have bo := o.hold b (List.mem_of_getElem? hb)
  have r1 := o.rows
  have hW : l ∈ R :: (bl ++ ql) := by simp [hlm]
  have RW : R ∈ R :: (bl ++ ql) := by simp
  have Lb' : Ls h l [.int b.broken, .int b.busy, .int b.used, .str b.kind, holdD b.hold] := Lb
  have w2 : m.rows.length < 16777216 := by omega
  cases ch : b.hold with
  | none =>
    have e1 : p.out1 m k = m := by unfold Pl.out1; rw [hb]; simp [ch]
    rw [e1] at q
    simp [H.lb.i, hl, Lb'.i, ch]
    exact q h _ (Fm.refl _ _) H
  | some xl =>
  obtain ⟨x, left⟩ := xl
  rw [ch] at bo
  by_cases c0 : left = 0
  · subst c0
    simp [H.lb.i, hl, Lb'.i, ch]
    refine way_ok hp bo.1.1 fun h1 f1 => ?_
    have H1 := H.keep0 f1
    have Lb1 := Lb'.keep0 f1
    have z1 := Lb1.l; have z2 := Lb1.lt; have z3 := H1.lr.l; have z4 := H1.lr.lt
    by_cases c1 : x.step = (p.way x).length
    · have BR' : B ≠ R := Z.BR
      simp [c1, z1, z2, z3, z4, w2, H1.lb.i, hl, lR, Ne.symm lR, ixN, Ne.symm BR']
      have e1 : p.out1 m k = ({ m with rows := m.rows ++ [Row.mk "done" (some x) (some k) (x.age + 1)] } : Mo).free k := by unfold Pl.out1; rw [hb]; simp [ch, c1]
      rw [e1] at q
      have F1 : ∀ a, Fm [R] h1 (h1.set R a) := fun a => (Fm.refl _ _).set _ (.inl (by simp))
      have H2 := H1.rowsL Z (F1 _) (rows := m.rows ++ [Row.mk "done" (some x) (some k) (x.age + 1)]) (H1.lr.set _)
      have F2 : ∀ h2 a, Fm [l] h2 (h2.set l a) := fun h2 a => (Fm.refl _ _).set _ (.inl (by simp))
      refine q _ _ (Fm.set (Fm.set f1.of0 _ (.inl RW)) _ (.inl hW)) ?_
      refine MoH.free (m := { m with rows := _ }) Z (h := h1.set R _) (by simpa [Row.d] using H2) hb hl (F2 _ _) ?_
      simpa [Bay.ds] using (Lb1.oth (m := R) (Ne.symm lR)).set (Bay.ds { b with hold := none })
    · have hx : PartOk p x := ⟨bo.1.1, by have := bo.1.2.2.2; omega⟩
      have c1' : ¬ ((x.step : Int) = ((p.way x).length : Int)) := by omega
      simp [c1']
      refine goal_ok hp hx fun h2 f2 => ?_
      have f12 := f1.trans f2
      have H2 := H.keep0 f12
      have hg := goal_lt hp hx
      have hrow := Pl.row_at hg
      obtain ⟨qu, hq⟩ : ∃ qu, m.queues[p.goal x]? = some qu := ⟨_, List.getElem?_eq_getElem (by rw [o.ql]; exact hg)⟩
      have eql : m.qlen (p.goal x) = qu.length := by unfold Mo.qlen; rw [hq]; rfl
      by_cases c2 : p.goal x = k
      · have c2' : (p.goal x : Int) = (k : Int) := by omega
        have e1 : p.out1 m k = (m.push (p.goal x) x).free k := by unfold Pl.out1; rw [hb]; simp [ch, c1, c2]
        rw [e1] at q
        simp [c2']
        simpa using outpush_step (sd := sd) (wd := wd) (td := td) (o7 := o7) (o8 := o8) (K := K) (N := N) (I := I) (ph := ph) (sk := sk) (gt := gt) hp hk hx hb Z o H2 q1 q2 (Q := Q) (fun h' F H => q h' _ (f12.of0.trans F) H)
      · have c2' : ¬ ((p.goal x : Int) = (k : Int)) := by omega
        simp [c2']
        refine goal_ok hp hx fun h3 f3 => ?_
        obtain ⟨l2, hl2, Lq⟩ := (H2.keep0 f3).pc.get hq
        simp [(H2.keep0 f3).lc.i, hl2, Lq.i]
        refine goal_ok hp hx fun h4 f4 => ?_
        have f14 := (f12.trans f3).trans f4
        have H4 := H.keep0 f14
        simp [hrow]
        by_cases c3 : (qu.length : Int) < (p.row (p.goal x)).room
        · have e1 : p.out1 m k = (m.push (p.goal x) x).free k := by unfold Pl.out1; rw [hb]; simp [ch, c1, c2, eql, c3]
          rw [e1] at q
          simp [c3]
          simpa using outpush_step (sd := sd) (wd := wd) (td := td) (o7 := o7) (o8 := o8) (K := K) (N := N) (I := I) (ph := ph) (sk := sk) (gt := gt) hp hk hx hb Z o H4 q1 q2 (Q := Q) (fun h' F H => q h' _ (f14.of0.trans F) H)
        · have e1 : p.out1 m k = m := by unfold Pl.out1; rw [hb]; simp [ch, c1, c2, eql, c3]
          rw [e1] at q
          simp [c3]
          exact q h4 _ f14.of0 H4
  · have e1 : p.out1 m k = m := by unfold Pl.out1; rw [hb]; simp [ch, c0]
    rw [e1] at q
    simp [H.lb.i, hl, Lb'.i, ch, c0]
    exact q h _ (Fm.refl _ _) H
end
end MP

/-! text SP9 -/
set_option Elab.async false
set_option linter.all false
set_option maxRecDepth 100000
set_option maxHeartbeats 4000000
namespace MP
open PySem PySem.Spec PyProof.Rows
open L2 hiding St
/-- [list(x) for x in xs]: new lists, one for one -/
theorem wLc_lists {α : Type} {enc : α → List D} {i : Nat} {ρ0 : Rho} {as : List α} {h : Hs} {Q : Hs → Prop} (hi : i < ρ0.length) (hs : as.length < sizeLine)
    (fin : ∀ ls h', Fm [] h h' → Ls h' h.length (ls.map D.loc) → Pts enc h' ls as → (∀ l ∈ ls, h.length < l ∧ l < h'.length) → ls.Nodup → Q h') :
    wLc none (gVar i) bYes (mCallN listN (aCons (mVar i) aNil)) ρ0 h.length (as.map fun a => .tup (enc a)) (h ++ [.lst []]) Q := by
  refine wLc_inv (fun j acc h1 => ∃ ls, acc = ls.map D.loc ∧ Fm [] h h1 ∧ h.length < h1.length ∧ Pts enc h1 ls (as.take j) ∧ (∀ l ∈ ls, h.length < l ∧ l < h1.length) ∧ ls.Nodup) (app_new h _) (by simpa using hs)
    ⟨[], rfl, (Fm.refl _ _).app _, by simp, ⟨by simp, by simp⟩, by simp, by simp⟩ (fun _ _ _ _ _ => trivial) (fun j x acc h1 hx ⟨ls, ha, F, hlt, P, hL, nd⟩ he hl => ?_) (fun acc h1 ⟨ls, ha, F, hlt, P, hL, nd⟩ he => ?_)
  · rw [List.getElem?_map] at hx
    cases ea : as[j]? with
    | none => rw [ea] at hx; cases hx
    | some a =>
    rw [ea] at hx
    cases hx
    have hj := (List.getElem?_eq_some_iff.mp ea).1
    have hll : ls.length = j := by rw [P.len]; simp; omega
    simp
    rw [List.getElem?_set_self hi]
    simp
    have F1 : Fm [] h1 (h1 ++ [.lst (enc a)]) := (Fm.refl _ _).app _
    have F2 : ∀ o, Fm [h.length] (h1 ++ [AO.lst (enc a)]) ((h1 ++ [AO.lst (enc a)]).set h.length o) := fun o => (Fm.refl _ _).set _ (.inl (by simp))
    refine ⟨app_get he _, ls ++ [h1.length], by simp [ha], (F.trans F1).set _ (.inr (Nat.le_refl _)), ?_, ⟨?_, ?_⟩, fun l hl => ?_, ?_⟩
    · omega
    · simp [hll]; omega
    · intro i' l x e1 e2
      rw [List.take_add_one, ea] at e2
      by_cases hc : i' < ls.length
      · rw [List.getElem?_append_left hc] at e1
        rw [List.getElem?_append_left (by simp; omega)] at e2
        have hlm := (hL l (List.mem_of_getElem? e1))
        exact ((P.at_ i' l x e1 e2).keep0 F1).keep (F2 _) (by simp; omega)
      · have h1' := (List.getElem?_eq_some_iff.mp e1).1
        have : i' = ls.length := by simp at h1'; omega
        subst this
        simp at e1
        subst e1
        rw [List.getElem?_append_right (by simp; omega)] at e2
        have : ls.length - (as.take j).length = 0 := by simp; omega
        rw [this] at e2
        simp at e2
        subst e2
        exact (Ls.new h1 (enc a)).keep (F2 _) (by simp; omega)
    · rcases List.mem_append.mp hl with hl | hl
      · have := hL l hl; omega
      · rw [List.mem_singleton.mp hl]; omega
    · rw [List.nodup_append]
      refine ⟨nd, by simp, fun x hx y hy => ?_⟩
      rw [List.mem_singleton.mp hy]
      have := hL x hx
      omega
  · rw [List.length_map, List.take_length] at P
    subst ha
    exact fin ls h1 F he P hL nd
theorem index_strs {h : Hs} {n : Nat} {xs : List Str} {w : Str} (e : itemsAt h n = some (xs.map D.str)) (hw : w ∈ xs) : indexM (.loc n) [.str w] h = some (.int (xs.idxOf w), h) := by
  unfold indexM
  simp only [e]
  rw [if_pos ⟨rfl, by simp [flatD]⟩]
  have : (xs.map D.str).findIdx? (fun z => eqF z (.str w)) = some (xs.idxOf w) := by
    rw [List.findIdx?_map]
    have hf : ((fun z => eqF z (D.str w)) ∘ D.str) = fun z => z == w := by funext z; rfl
    rw [hf, List.findIdx?_eq_some_iff_findIdx_eq]
    refine ⟨?_, rfl⟩
    have := List.idxOf_lt_length_of_mem hw
    simpa using this
  rw [this]
section
variable {p : Pl} {h : Hs} {B C R K N I : Nat} {bl ql : List Nat} {m : Mo} {sd wd ph sk gt : D} {o7 o8 o9 o10 : Option D} {Q : QS}
def tagsD (tags : List Int) : D := .tup (tags.map fun n => .tup [.int n])
theorem tags_plain (tags : List Int) : (tags.map fun n => D.tup [.int n]).all (plain 2) = true := by
  rw [List.all_map, List.all_eq_true]
  intro n _
  rfl
theorem came_step {k c : Nat} {tags : List Int} {coming : List Nat} {inside : List Part} (hc : coming[k]? = some c) (ht : tags = [] ∨ tags.length = coming.length) (Z : Lay B C R bl ql) (H : MoH h B C R bl ql m) (LK : Ls h K (coming.map fun (n : Nat) => D.int n)) (LI : Ls h I (inside.map Part.d)) (In : I ∉ allP B C R bl ql) (Kn : K ≠ R ∧ K ≠ I)
    (q2 : m.rows.length ≤ 10000000) (q3 : inside.length ≤ 10000000)
    (q : ∀ h', Fm [R, I] h h' → MoH h' B C R bl ql { m with rows := m.rows ++ [came (freshAt tags k c)] } → Ls h' I ((inside ++ [freshAt tags k c]).map Part.d) → Q .nx (mR p.d sd wd (tagsD tags) B C K (some (.int k)) o8 o9 o10 ph sk gt R N I) h') :
    wS (sSeq (sExpr (mMeth isLst appendM (mVar 16) (aCons (mOp2 addD (mTup (aCons (mOp2 ixO (mVar 6) (mVar 7)) (aCons (mC (.int 0)) (aCons (mC (.int 0)) (aCons (mC (.int 0)) aNil))))) (mIf (bBool (mOp2 neO (mVar 3) (mTup aNil))) (mOp2 ixO (mVar 3) (mVar 7)) (mTup aNil))) aNil))) (sSeq (sExpr (mMeth isLst appendM (mVar 14) (aCons (mTup (aCons (mC (.str "came")) (aCons (mOp2 ixO (mVar 16) (mOp1 negO (mC (.int 1)))) (aCons (mC .non) (aCons (mOp2 ixO (mVar 6) (mVar 7)) aNil))))) aNil))) sNext)) (mR p.d sd wd (tagsD tags) B C K (some (.int k)) o8 o9 o10 ph sk gt R N I) h Q := by
  have hk := (List.getElem?_eq_some_iff.mp hc).1
  have IR : I ≠ R := fun e => In (by simp [e])
  have e0 : neO (tagsD tags) (.tup []) h = some (.bl (!tags.isEmpty), h) := by
    unfold tagsD
    rw [ne_nilT (n := 2) (by omega) (tags_plain tags)]
    cases tags <;> rfl
  have z1 := LI.l; have z2 := LI.lt; have z3 := H.lr.l; have z4 := H.lr.lt
  have w1 : inside.length < 16777216 := by omega
  have w2 : m.rows.length < 16777216 := by omega
  have F1 : ∀ a b, Fm [R, I] h ((h.set I a).set R b) := fun a b => ((Fm.refl _ _).set _ (.inl (by simp))).set _ (.inl (by simp))
  have F2 : ∀ a, Fm [I] h (h.set I a) := fun a => (Fm.refl _ _).set _ (.inl (by simp))
  have F3 : ∀ h b, Fm [R] h (h.set R b) := fun h b => (Fm.refl _ _).set _ (.inl (by simp))
  have fin : ∀ y : Part, y = freshAt tags k c → Q .nx (mR p.d sd wd (tagsD tags) B C K (some (.int k)) o8 o9 o10 ph sk gt R N I) ((h.set I (.lst (inside.map Part.d ++ [y.d]))).set R (.lst (m.rows.map Row.d ++ [.tup [.str (Str.ofString "came"), y.d, .non, .int c]]))) := by
    intro y ey
    subst ey
    refine q _ (F1 _ _) ?_ ?_
    · refine (H.out (F2 _) (by simpa using In)).rowsL Z (F3 _ _) ?_
      have := (H.out (F2 (.lst (inside.map Part.d ++ [(freshAt tags k c).d]))) (by simpa using In)).lr.set (m.rows.map Row.d ++ [.tup [.str (Str.ofString "came"), (freshAt tags k c).d, .non, .int c]])
      simpa [came, Row.d, freshAt] using this
    · have := (LI.set (inside.map Part.d ++ [(freshAt tags k c).d])).oth (m := R) (o := .lst (m.rows.map Row.d ++ [.tup [.str (Str.ofString "came"), (freshAt tags k c).d, .non, .int c]])) (Ne.symm IR)
      simpa using this
  cases tags with
  | nil =>
    have e1 : freshAt [] k c = ⟨c, 0, 0, 0, none⟩ := rfl
    simp [LK.i, hc, e0, z1, z2, z3, z4, w1, w2, IR, Ne.symm IR, List.getElem?_set, Ne.symm Kn.1, Ne.symm Kn.2]
    exact fin ⟨c, 0, 0, 0, none⟩ rfl
  | cons t ts =>
    have hl : (t :: ts).length = coming.length := by rcases ht with h | h; cases h; exact h
    have e2 : (t :: ts)[k]? = some ((t :: ts)[k]'(by omega)) := List.getElem?_eq_getElem _
    generalize ((t :: ts)[k]'(by omega)) = tk at e2
    have e1 : freshAt (t :: ts) k c = ⟨c, 0, 0, 0, some tk⟩ := by unfold freshAt; rw [e2]
    have e3 : ixO (tagsD (t :: ts)) (.int k) h = some (.tup [.int tk], h) := by
      unfold tagsD
      rw [ix_tup, atI_cast, List.getElem?_map, e2]; rfl
    simp [LK.i, hc, e0, e3, z1, z2, z3, z4, w1, w2, IR, Ne.symm IR, Ne.symm Kn.1, Ne.symm Kn.2]
    exact fin ⟨c, 0, 0, 0, some tk⟩ e1.symm
/-! ### the moment -/
theorem fresh_ok (hp : PlOk p) {phase : Int} {tags : List Int} : ∀ x ∈ p.fresh phase tags, PartOk p x := by
  intro x hx
  obtain ⟨i, hi, e⟩ := List.mem_mapIdx.mp hx
  have hc : (p.coming phase)[i] < p.orders.length := by
    exact List.mem_range.mp (List.mem_filter.mp (List.getElem_mem hi)).1
  subst e
  refine ⟨hc, ?_⟩
  show 0 < (p.way _).length
  exact List.length_pos_iff.mpr (Pl.way_steps hp (x := freshAt tags i (p.coming phase)[i]) hc).1
theorem coming_len (p : Pl) (phase : Int) : (p.coming phase).length ≤ p.orders.length := by
  unfold Pl.coming
  refine Nat.le_trans (List.length_filter_le _ _) ?_
  simp
theorem Pl.order_phase {p : Pl} {k : Nat} (h : k < p.orders.length) : ∃ o, p.orders[k]? = some o ∧ o.phase = ((p.orders[k]?).map Order.phase).getD 0 := by
  refine ⟨_, List.getElem?_eq_getElem h, ?_⟩
  rw [List.getElem?_eq_getElem h]
  rfl
theorem MoOk.rowsA {m : Mo} {qb rb n : Nat} {rows : List Row} (o : MoOk p m qb rb) (hr : rows.length ≤ n) : MoOk p { m with rows := m.rows ++ rows } qb (rb + n) := ⟨o.bl, o.ql, o.hold, o.part, by have := o.rows; simp; omega⟩
theorem enter_ok {m : Mo} {qb rb : Nat} : ∀ (xs : List Part) (m : Mo) (st : List Part) (qb rb : Nat), MoOk p m qb rb → (∀ x ∈ xs, PartOk p x) → MoOk p (xs.foldl p.enter1 (m, st)).1 (qb + xs.length) (rb + xs.length) ∧ (xs.foldl p.enter1 (m, st)).2.length ≤ st.length + xs.length ∧ ((∀ x ∈ st, PartOk p x) → ∀ x ∈ (xs.foldl p.enter1 (m, st)).2, PartOk p x)
  | [], m, st, qb, rb, o, h => ⟨o, Nat.le_refl _, fun h => h⟩
  | x :: xs, m, st, qb, rb, o, h => by
    have o1 := MoOk.enter1 (st := st) o (h x List.mem_cons_self)
    have h2 : (p.enter1 (m, st) x).2.length ≤ st.length + 1 ∧ ((∀ y ∈ st, PartOk p y) → ∀ y ∈ (p.enter1 (m, st) x).2, PartOk p y) := by
      unfold Pl.enter1
      split
      · exact ⟨by simp, fun h => h⟩
      · refine ⟨by simp, fun hst y hy => ?_⟩
        rcases List.mem_append.mp hy with hy | hy
        · exact hst y hy
        · rw [List.mem_singleton.mp hy]; exact h x List.mem_cons_self
    obtain ⟨a, b, c⟩ := enter_ok (m := m) (qb := qb) (rb := rb) xs (p.enter1 (m, st) x).1 (p.enter1 (m, st) x).2 (qb + 1) (rb + 1) o1 fun y hy => h y (List.mem_cons_of_mem _ hy)
    refine ⟨a.mono ?_ ?_, ?_, fun hst => c (h2.2 hst)⟩
    · simp; omega
    · simp; omega
    · have := h2.1; simp only [List.foldl_cons, List.length_cons]; have b' : (xs.foldl p.enter1 (p.enter1 (m, st) x)).2.length ≤ (p.enter1 (m, st) x).2.length + xs.length := b; omega
theorem range_fold {α : Type} (f : α → Nat → α) (a : α) (i : Nat) : (List.range (i + 1)).foldl f a = f ((List.range i).foldl f a) i := by
  rw [List.range_succ, List.foldl_append]; rfl
theorem begins_ok (hp : PlOk p) {m : Mo} {qb rb : Nat} (o : MoOk p m qb rb) : ∀ i, MoOk p ((List.range i).foldl p.begin1 m) qb (rb + 2 * i)
  | 0 => o
  | i + 1 => by rw [range_fold]; exact ((begins_ok hp o i).begin1 hp).mono (Nat.le_refl _) (by omega)
theorem works_ok (hp : PlOk p) {m : Mo} {word : Str} {qb rb : Nat} (o : MoOk p m qb rb) : ∀ i, MoOk p ((List.range i).foldl (p.work1 word) m) qb (rb + i)
  | 0 => o
  | i + 1 => by rw [range_fold]; exact ((works_ok hp o i).work1 hp).mono (Nat.le_refl _) (by omega)
theorem outs_ok {m : Mo} {qb rb : Nat} (o : MoOk p m qb rb) : ∀ i, MoOk p (p.outs i m) (qb + i) (rb + i)
  | 0 => o
  | i + 1 => by unfold Pl.outs; rw [range_fold]; exact ((outs_ok o i).out1).mono (by omega) (by omega)
/-- what comes before the k-th bay's work does not touch it -/
theorem works_at {m : Mo} {word : Str} {k : Nat} : ∀ i, i ≤ k → ((List.range i).foldl (p.work1 word) m).bays[k]? = m.bays[k]?
  | 0, _ => rfl
  | i + 1, h => by
    rw [range_fold, ← works_at (m := m) (word := word) i (by omega)]
    generalize (List.range i).foldl (p.work1 word) m = m'
    unfold Pl.work1
    split
    · show (m'.bays.set i _)[k]? = _
      rw [List.getElem?_set_ne (by omega)]
    · rfl
theorem range_at {n i : Nat} {x : D} (h : ((List.range n).map fun (k : Nat) => D.int k)[i]? = some x) : i < n ∧ x = .int i := by
  rw [List.getElem?_map] at h
  by_cases hi : i < n
  · rw [List.getElem?_range hi] at h; cases h; exact ⟨hi, rfl⟩
  · rw [List.getElem?_eq_none (by simp; omega)] at h; cases h
theorem fresh_len (p : Pl) (phase : Int) (tags : List Int) : (p.fresh phase tags).length = (p.coming phase).length := by unfold Pl.fresh; simp
theorem fresh_at {phase : Int} {tags : List Int} {i c : Nat} (h : (p.coming phase)[i]? = some c) : (p.fresh phase tags)[i]? = some (freshAt tags i c) := by
  unfold Pl.fresh; rw [List.getElem?_mapIdx, h]; rfl
theorem moment_rest {s : Sta} {word : Str} {tags : List Int} {gb qb : Nat} {m : Mo} {Q : QE} (hp : PlOk p) (hg : ∀ x ∈ s.gate, PartOk p x) (hgl : s.gate.length ≤ gb) (hsl : s.strikes.length ≤ gb) (ht : tags = [] ∨ tags.length = (p.coming s.phase).length)
    (em : m = p.struck word ⟨s.bays, s.queues, []⟩) (hbk : ∀ k b, (p.mo2 s word tags).bays[k]? = some b → BackOk p k b word) (g1 : gb ≤ 10000) (g2 : qb ≤ 1000000)
    (Z : Lay B C R bl ql) (o : MoOk p m qb 1) (H : MoH h B C R bl ql m) (LN : Ls h N (p.names.map D.str)) (Nn : N ∉ allP B C R bl ql) (LI : Ls h I (s.gate.map Part.d)) (In : I ∉ allP B C R bl ql) (NI : N ≠ I)
    (q : ∀ h', Fm (I :: R :: (bl ++ ql)) h h' → Ls h' R ((p.told s word tags).map Row.d) → Q (.tup [(p.next s word tags).d, .loc R]) h') :
    wS (sSeq (sSet (mLc (iRange1 (mCallN lenN (aCons (mOp2 ixO (mVar 0) (mC (.int 3))) aNil))) (gVar 7) (bBool (mOp2 eqO (mOp2 ixO (mOp2 ixO (mOp2 ixO (mVar 0) (mC (.int 3))) (mVar 7)) (mC (.int 0))) (mVar 11))) (mVar 7) [7]) (gVar 6)) (sSeq (sFor (iRange1 (mCallN lenN (aCons (mVar 6) aNil))) (gVar 7) (sSeq (sExpr (mMeth isLst appendM (mVar 16) (aCons (mOp2 addD (mTup (aCons (mOp2 ixO (mVar 6) (mVar 7)) (aCons (mC (.int 0)) (aCons (mC (.int 0)) (aCons (mC (.int 0)) aNil))))) (mIf (bBool (mOp2 neO (mVar 3) (mTup aNil))) (mOp2 ixO (mVar 3) (mVar 7)) (mTup aNil))) aNil))) (sSeq (sExpr (mMeth isLst appendM (mVar 14) (aCons (mTup (aCons (mC (.str "came")) (aCons (mOp2 ixO (mVar 16) (mOp1 negO (mC (.int 1)))) (aCons (mC .non) (aCons (mOp2 ixO (mVar 6) (mVar 7)) aNil))))) aNil))) sNext))) (sSeq (sSet (mLst aNil) (gVar 8)) (sSeq (sFor (iSeq (mVar 16)) (gVar 9) (sSeq (sSet (mCallF 2 F_law_goal (aCons (mVar 0) (aCons (mVar 9) aNil))) (gVar 10)) (sSeq (sIf (bBool (mOp2 ltO (mCallN lenN (aCons (mOp2 ixO (mVar 5) (mVar 10)) aNil)) (mOp2 ixO (mOp2 ixO (mOp2 ixO (mVar 0) (mC (.int 0))) (mVar 10)) (mC (.int 1))))) (sSeq (sExpr (mMeth isLst appendM (mOp2 ixO (mVar 5) (mVar 10)) (aCons (mVar 9) aNil))) (sSeq (sExpr (mMeth isLst appendM (mVar 14) (aCons (mTup (aCons (mC (.str "queued")) (aCons (mVar 9) (aCons (mVar 10) (aCons (mCallN lenN (aCons (mOp2 ixO (mVar 5) (mVar 10)) aNil)) aNil))))) aNil))) sNext)) (sSeq (sExpr (mMeth isLst appendM (mVar 8) (aCons (mVar 9) aNil))) sNext)) sNext))) (sSeq (sFor (iRange1 (mCallN lenN (aCons (mVar 15) aNil))) (gVar 10) (sSeq (sIf (bAnd (bBool (mOp2 eqO (mOp2 ixO (mOp2 ixO (mVar 4) (mVar 10)) (mC (.int 0))) (mC (.int 0)))) (bAnd (bBool (mOp2 isO (mOp2 ixO (mOp2 ixO (mVar 4) (mVar 10)) (mC (.int 4))) (mC .non))) (bBool (mOp2 neO (mOp2 ixO (mVar 5) (mVar 10)) (mLst aNil))))) (sSeq (sExpr (mCallF 5 F_law_begin (aCons (mVar 0) (aCons (mVar 10) (aCons (mOp2 ixO (mVar 4) (mVar 10)) (aCons (mMeth isLst popM (mOp2 ixO (mVar 5) (mVar 10)) (aCons (mC (.int 0)) aNil)) (aCons (mVar 14) aNil))))))) sNext) sNext) sNext)) (sSeq (sFor (iRange1 (mCallN lenN (aCons (mVar 15) aNil))) (gVar 10) (sSeq (sExpr (mCallF 5 F_law_work (aCons (mVar 0) (aCons (mVar 10) (aCons (mOp2 ixO (mVar 4) (mVar 10)) (aCons (mVar 2) (aCons (mVar 14) aNil))))))) sNext)) (sSeq (sFor (iRange3 (mOp2 subD (mCallN lenN (aCons (mVar 15) aNil)) (mC (.int 1))) (mOp1 negO (mC (.int 1))) (mOp1 negO (mC (.int 1)))) (gVar 10) (sSeq (sIf (bAnd (bBool (mOp2 isNotO (mOp2 ixO (mOp2 ixO (mVar 4) (mVar 10)) (mC (.int 4))) (mC .non))) (bBool (mOp2 eqO (mOp2 ixO (mOp2 ixO (mOp2 ixO (mVar 4) (mVar 10)) (mC (.int 4))) (mC (.int 1))) (mC (.int 0))))) (sSeq (sSet (mOp2 ixO (mOp2 ixO (mOp2 ixO (mVar 4) (mVar 10)) (mC (.int 4))) (mC (.int 0))) (gVar 9)) (sSeq (sIf (bBool (mOp2 eqO (mOp2 ixO (mVar 9) (mC (.int 1))) (mCallN lenN (aCons (mCallF 2 F_law_way (aCons (mVar 0) (aCons (mVar 9) aNil))) aNil)))) (sSeq (sExpr (mMeth isLst appendM (mVar 14) (aCons (mTup (aCons (mC (.str "done")) (aCons (mVar 9) (aCons (mVar 10) (aCons (mOp2 addD (mOp2 ixO (mVar 9) (mC (.int 2))) (mC (.int 1))) aNil))))) aNil))) (sSeq (sSet (mC .non) (gSubM (mOp2 ixO (mVar 4) (mVar 10)) (mC (.int 4)))) sNext)) (sSeq (sIf (bOr (bBool (mOp2 eqO (mCallF 2 F_law_goal (aCons (mVar 0) (aCons (mVar 9) aNil))) (mVar 10))) (bBool (mOp2 ltO (mCallN lenN (aCons (mOp2 ixO (mVar 5) (mCallF 2 F_law_goal (aCons (mVar 0) (aCons (mVar 9) aNil)))) aNil)) (mOp2 ixO (mOp2 ixO (mOp2 ixO (mVar 0) (mC (.int 0))) (mCallF 2 F_law_goal (aCons (mVar 0) (aCons (mVar 9) aNil)))) (mC (.int 1)))))) (sSeq (sExpr (mMeth isLst appendM (mOp2 ixO (mVar 5) (mCallF 2 F_law_goal (aCons (mVar 0) (aCons (mVar 9) aNil)))) (aCons (mVar 9) aNil))) (sSeq (sExpr (mMeth isLst appendM (mVar 14) (aCons (mTup (aCons (mC (.str "queued")) (aCons (mVar 9) (aCons (mCallF 2 F_law_goal (aCons (mVar 0) (aCons (mVar 9) aNil))) (aCons (mCallN lenN (aCons (mOp2 ixO (mVar 5) (mCallF 2 F_law_goal (aCons (mVar 0) (aCons (mVar 9) aNil)))) aNil)) aNil))))) aNil))) (sSeq (sSet (mC .non) (gSubM (mOp2 ixO (mVar 4) (mVar 10)) (mC (.int 4)))) sNext))) sNext) sNext)) sNext)) sNext) sNext)) (sSeq (sRet (mTup (aCons (mCallF 7 F_law_closed (aCons (mVar 0) (aCons (mVar 11) (aCons (mVar 12) (aCons (mVar 4) (aCons (mVar 5) (aCons (mVar 8) (aCons (mOp2 neO (mVar 2) (mC (.str "-"))) aNil)))))))) (aCons (mVar 14) aNil)))) sNext)))))))) [some p.d, some s.d, some (.str word), some (tagsD tags), some (.loc B), some (.loc C), none, none, none, none, none, some (.int s.phase), some (.tup (s.strikes.map D.int)), some (.tup (s.gate.map Part.d)), some (.loc R), some (.loc N), some (.loc I), none, none, none] h (retK Q) := by
  have n26 := hp.len
  have o100 := hp.olen
  have c100 := coming_len p s.phase
  simp
  refine ⟨by omega, ?_⟩
  unfold rangeD
  simp
  refine wLc_pureM (dec := fun (k : Nat) => D.int k) (fun k : Nat => decide (((p.orders[k]?).map Order.phase).getD 0 = s.phase)) (fun k => .int k) (by simp; omega) (fun _ _ => trivial) (fun k h1 hx f => ?_) (fun h1 f1 LK => ?_)
  · obtain ⟨ok, e1, e2⟩ := Pl.order_phase (p := p) (k := k) (by simpa using hx)
    simp [e1]
  have LK : Ls h1 h.length ((p.coming s.phase).map fun (k : Nat) => D.int k) := LK
  have Kn : ∀ l, l < h.length → h.length ≠ l := fun l hl => by omega
  have hR := H.lr.lt; have hI := LI.lt; have hN := LN.lt
  have hK : h.length ∉ allP B C R bl ql := by
    have h1 := H.lb.lt; have h2 := H.lc.lt
    simp
    refine ⟨by omega, by omega, by omega, fun z => ?_, fun z => ?_⟩
    · obtain ⟨i, hi⟩ := List.getElem?_of_mem z
      have hi' := (List.getElem?_eq_some_iff.mp hi).1
      have := H.pb.at_ i _ (m.bays[i]'(by rw [← H.pb.len]; exact hi')) hi (List.getElem?_eq_getElem _)
      have := this.lt
      omega
    · obtain ⟨i, hi⟩ := List.getElem?_of_mem z
      have hi' := (List.getElem?_eq_some_iff.mp hi).1
      have := H.pc.at_ i _ (m.queues[i]'(by rw [← H.pc.len]; exact hi')) hi (List.getElem?_eq_getElem _)
      have := this.lt
      omega
  have KI : h.length ≠ I := by omega
  have KN : h.length ≠ N := by omega
  have KR : h.length ≠ R := by omega
  obtain ⟨K, eK⟩ : ∃ K, K = h.length := ⟨_, rfl⟩
  rw [← eK] at LK hK KI KN KR ⊢
  replace H := H.keep0 f1; replace LN := LN.keep0 f1; replace LI := LI.keep0 f1
  simp [LK.i]
  refine ⟨by omega, ?_⟩
  have W0 : ∀ l, l ∉ allP B C R bl ql → l ≠ I → l ∉ I :: R :: (bl ++ ql) := fun l h1 h2 => by
    simp at h1 ⊢
    exact ⟨h2, h1.2.2.1, h1.2.2.2.1, h1.2.2.2.2⟩
  have KW := W0 K hK KI
  have NW := W0 N Nn NI
  -- what comes
  obtain ⟨J, hJ⟩ : ∃ J : Nat → Rho → Hs → Prop, ∀ i ρ hx, J i ρ hx ↔ ∃ o7, ρ = mR p.d s.d (.str word) (tagsD tags) B C K o7 none none none (.int s.phase) (.tup (s.strikes.map D.int)) (.tup (s.gate.map Part.d)) R N I ∧ Fm (I :: R :: (bl ++ ql)) h1 hx ∧
      MoH hx B C R bl ql { m with rows := m.rows ++ ((p.fresh s.phase tags).take i).map came } ∧ Ls hx I ((s.gate ++ (p.fresh s.phase tags).take i).map Part.d) := ⟨_, fun _ _ _ => Iff.rfl⟩
  have r0 := o.rows
  refine wFor_inv J ((hJ _ _ _).mpr ⟨none, rfl, Fm.refl _ _, by simpa using H, by simpa using LI⟩) (fun i x ρ hx hi Ji => ?_) (fun ρ hx Ji => ?_)
  · obtain ⟨o7, e, F, Hx, Lx⟩ := (hJ _ _ _).mp Ji
    subst e
    obtain ⟨hi1, rfl⟩ := range_at hi
    have hc : (p.coming s.phase)[i]? = some ((p.coming s.phase)[i]) := List.getElem?_eq_getElem hi1
    generalize (p.coming s.phase)[i] = c at hc
    have hf := fresh_at (tags := tags) hc
    have et : (p.fresh s.phase tags).take (i + 1) = (p.fresh s.phase tags).take i ++ [freshAt tags i c] := by rw [List.take_add_one, hf]; rfl
    have tl : ((p.fresh s.phase tags).take i).length ≤ 100 := by simp [fresh_len]; omega
    rw [wG_Var]
    refine ⟨trivial, ?_⟩
    refine came_step (m := { m with rows := m.rows ++ ((p.fresh s.phase tags).take i).map came }) hc ht Z Hx (LK.keep F KW) Lx In ⟨KR, KI⟩ (by simp at tl ⊢; omega) (by simp at tl ⊢; omega) fun h' F' H' L' => ?_
    refine (hJ _ _ _).mpr ⟨_, rfl, F.trans (F'.mono (by simp)), ?_, ?_⟩
    · rw [et]; simpa using H'
    · rw [et]; simpa using L'
  obtain ⟨o7, e, F, H0, LI0⟩ := (hJ _ _ _).mp Ji
  subst e
  clear hJ Ji J
  have e1 : (List.range (p.coming s.phase).length).length = (p.fresh s.phase tags).length := by simp [fresh_len]
  rw [List.length_map, e1, List.take_length] at H0 LI0
  have hin : ∀ x ∈ s.gate ++ p.fresh s.phase tags, PartOk p x := fun x hx => by
    rcases List.mem_append.mp hx with hx | hx
    · exact hg x hx
    · exact fresh_ok hp x hx
  have LN0 := LN.keep F NW
  have il : (s.gate ++ p.fresh s.phase tags).length ≤ gb + 100 := by rw [List.length_append, fresh_len]; omega
  have em0 : p.mo0 s word tags = { m with rows := m.rows ++ (p.fresh s.phase tags).map came } := by rw [em]; rfl
  rw [← em0] at H0
  have o0 : MoOk p (p.mo0 s word tags) qb 101 := by rw [em0]; exact (o.rowsA (n := 100) (by simp [fresh_len]; omega)).mono (Nat.le_refl _) (by omega)
  generalize hins : s.gate ++ p.fresh s.phase tags = inside at *
  -- they enter
  refine ⟨trivial, ?_⟩
  simp
  have f2 : Fm [] hx (hx ++ [.lst []]) := (Fm.refl _ _).app _
  have LY := Ls.new hx []
  have hb : ∀ l, l ∈ I :: N :: allP B C R bl ql → l < hx.length := by
    intro l hl
    simp at hl
    rcases hl with rfl | rfl | rfl | rfl | rfl | hl | hl
    · exact LI0.lt
    · exact LN0.lt
    · exact H0.lb.lt
    · exact H0.lc.lt
    · exact H0.lr.lt
    · obtain ⟨i, hi⟩ := List.getElem?_of_mem hl
      have hi' := (List.getElem?_eq_some_iff.mp hi).1
      exact (H0.pb.at_ i _ _ hi (List.getElem?_eq_getElem (by rw [← H0.pb.len]; exact hi'))).lt
    · obtain ⟨i, hi⟩ := List.getElem?_of_mem hl
      have hi' := (List.getElem?_eq_some_iff.mp hi).1
      exact (H0.pc.at_ i _ _ hi (List.getElem?_eq_getElem (by rw [← H0.pc.len]; exact hi'))).lt
  have YI : hx.length ≠ I := by have := hb I (by simp); omega
  have YN : hx.length ≠ N := by have := hb N (by simp); omega
  have Yn : hx.length ∉ allP B C R bl ql := fun z => by have := hb hx.length (List.mem_cons_of_mem _ (List.mem_cons_of_mem _ z)); omega
  have YW : ∀ l ∈ hx.length :: R :: (bl ++ ql), l ∈ (I :: R :: (bl ++ ql)) ∨ h.length ≤ l := by
    intro l hl
    have := F.len; have := f1.len
    simp at hl ⊢
    rcases hl with rfl | rfl | hl | hl
    · right; omega
    · left; right; left; rfl
    · left; right; right; left; exact hl
    · left; right; right; right; exact hl
  have F0 := (f1.of0.trans F).trans f2.of0
  have H0' := H0.keep0 f2
  have LI0' := LI0.keep0 f2
  have LN0' := LN0.keep0 f2
  obtain ⟨Y, eY⟩ : ∃ Y, Y = hx.length := ⟨_, rfl⟩
  rw [← eY] at LY YI YN Yn YW ⊢
  clear hb
  generalize hx ++ [AO.lst []] = h2 at *
  have NY : N ∉ Y :: R :: (bl ++ ql) := by simp at Nn ⊢; exact ⟨fun e => YN e.symm, Nn.2.2⟩
  have IY : I ∉ Y :: R :: (bl ++ ql) := by simp at In ⊢; exact ⟨fun e => YI e.symm, In.2.2⟩
  obtain ⟨J, hJ⟩ : ∃ J : Nat → Rho → Hs → Prop, ∀ i ρ hx, J i ρ hx ↔ ∃ o9 o10, ρ = mR p.d s.d (.str word) (tagsD tags) B C K o7 (some (.loc Y)) o9 o10 (.int s.phase) (.tup (s.strikes.map D.int)) (.tup (s.gate.map Part.d)) R N I ∧ Fm (Y :: R :: (bl ++ ql)) h2 hx ∧
      MoH hx B C R bl ql ((inside.take i).foldl p.enter1 (p.mo0 s word tags, [])).1 ∧ Ls hx Y (((inside.take i).foldl p.enter1 (p.mo0 s word tags, [])).2.map Part.d) := ⟨_, fun _ _ _ => Iff.rfl⟩
  refine ⟨_, LI0'.i, ?_⟩
  refine wFor_inv J ((hJ _ _ _).mpr ⟨none, none, rfl, Fm.refl _ _, by simpa using H0', by simpa using LY⟩) (fun i x ρ hx hi Ji => ?_) (fun ρ hx Ji => ?_)
  · obtain ⟨o9, o10, e, F, Hx, Lx⟩ := (hJ _ _ _).mp Ji
    subst e
    rw [List.getElem?_map] at hi
    cases ex : inside[i]? with
    | none => rw [ex] at hi; cases hi
    | some x =>
    rw [ex] at hi
    cases hi
    have hil := (List.getElem?_eq_some_iff.mp ex).1
    have et : (inside.take (i + 1)).foldl p.enter1 (p.mo0 s word tags, []) = p.enter1 ((inside.take i).foldl p.enter1 (p.mo0 s word tags, [])) x := by rw [List.take_add_one, ex, List.foldl_append]; rfl
    obtain ⟨eo, el, _⟩ := enter_ok (p := p) (m := m) (qb := 0) (rb := 0) (inside.take i) (p.mo0 s word tags) [] qb 101 o0 fun y hy => hin y (List.mem_of_mem_take hy)
    rw [wG_Var]
    refine ⟨(LI0'.keep F IY).i, ?_⟩
    have tl : (inside.take i).length ≤ gb + 100 := by simp; omega
    refine enter_step (st := ((inside.take i).foldl p.enter1 (p.mo0 s word tags, [])).2) hp (hin x (List.mem_of_getElem? ex)) Z eo Hx Lx Yn (by omega) (by omega) (by simp at el; omega) fun h' F' H' L' => ?_
    exact (hJ _ _ _).mpr ⟨_, _, rfl, F.trans F', by rw [et]; exact H', by rw [et]; exact L'⟩
  obtain ⟨o9, o10, e, F1, H1, LY1⟩ := (hJ _ _ _).mp Ji
  subst e
  clear hJ Ji J
  have hI1 := LI0'.keep F1 IY
  rw [List.length_map, List.take_length] at H1 LY1
  obtain ⟨o1, l1, k1⟩ := enter_ok (p := p) (m := m) (qb := 0) (rb := 0) inside (p.mo0 s word tags) [] qb 101 o0 hin
  have em1 : inside.foldl p.enter1 (p.mo0 s word tags, []) = p.mo1 s word tags := by unfold Pl.mo1; rw [hins]
  rw [em1] at H1 LY1 o1 l1 k1
  have LN1 := LN0'.keep F1 NY
  have G1 := F0.then F1 YW
  refine ⟨hI1.i, ?_⟩
  have nl : p.names.length = p.rows.length := by unfold Pl.names; simp
  simp [LN1.i, nl]
  refine ⟨by omega, ?_⟩
  clear hI1
  have WW : ∀ l ∈ R :: (bl ++ ql), l ∈ I :: R :: (bl ++ ql) := fun l hl => List.mem_cons_of_mem _ hl
  have NW2 : N ∉ R :: (bl ++ ql) := fun z => NW (WW _ z)
  have YW2 : Y ∉ R :: (bl ++ ql) := by simp at Yn ⊢; exact Yn.2.2
  unfold rangeD
  simp
  -- they begin
  obtain ⟨J, hJ⟩ : ∃ J : Nat → Rho → Hs → Prop, ∀ i ρ hx, J i ρ hx ↔ ∃ o9 o10, ρ = mR p.d s.d (.str word) (tagsD tags) B C K o7 (some (.loc Y)) o9 o10 (.int s.phase) (.tup (s.strikes.map D.int)) (.tup (s.gate.map Part.d)) R N I ∧ Fm (R :: (bl ++ ql)) hx hx ∧ Fm (I :: R :: (bl ++ ql)) h hx ∧ Ls hx N (p.names.map D.str) ∧ Ls hx Y ((p.mo1 s word tags).2.map Part.d) ∧
      MoH hx B C R bl ql ((List.range i).foldl p.begin1 (p.mo1 s word tags).1) := ⟨_, fun _ _ _ => Iff.rfl⟩
  rename Hs => hy
  refine wFor_inv J ((hJ _ _ _).mpr ⟨o9, o10, rfl, Fm.refl _ _, G1, LN1, LY1, H1⟩) (fun i x ρ hx hi Ji => ?_) (fun ρ hx Ji => ?_)
  · obtain ⟨o9, o10, e, _, F, Ln, Ly, Hx⟩ := (hJ _ _ _).mp Ji
    subst e
    obtain ⟨hi1, rfl⟩ := range_at hi
    have ob := begins_ok hp o1 i
    rw [wG_Var]
    refine ⟨trivial, ?_⟩
    refine begin_step hp hi1 Z ob Hx (by omega) (by omega) fun h' F' H' => ?_
    exact (hJ _ _ _).mpr ⟨_, _, rfl, Fm.refl _ _, F.trans (F'.mono WW), Ln.keep F' NW2, Ly.keep F' YW2, by rw [range_fold]; exact H'⟩
  obtain ⟨o9', o10', e, _, G2, LN2, LY2, H2⟩ := (hJ _ _ _).mp Ji
  subst e
  clear hJ Ji J
  rw [List.length_map, List.length_range] at H2
  have o2 := begins_ok hp o1 p.rows.length
  have em2 : (List.range p.rows.length).foldl p.begin1 (p.mo1 s word tags).1 = p.mo2 s word tags := rfl
  rw [em2] at H2 o2
  refine ⟨trivial, ?_⟩
  simp [LN2.i, nl]
  refine ⟨by omega, ?_⟩
  unfold rangeD
  simp
  -- they work
  obtain ⟨J, hJ⟩ : ∃ J : Nat → Rho → Hs → Prop, ∀ i ρ hx, J i ρ hx ↔ ∃ o9 o10, ρ = mR p.d s.d (.str word) (tagsD tags) B C K o7 (some (.loc Y)) o9 o10 (.int s.phase) (.tup (s.strikes.map D.int)) (.tup (s.gate.map Part.d)) R N I ∧ Fm (I :: R :: (bl ++ ql)) h hx ∧ Ls hx N (p.names.map D.str) ∧ Ls hx Y ((p.mo1 s word tags).2.map Part.d) ∧
      MoH hx B C R bl ql ((List.range i).foldl (p.work1 word) (p.mo2 s word tags)) := ⟨_, fun _ _ _ => Iff.rfl⟩
  refine wFor_inv J ((hJ _ _ _).mpr ⟨_, _, rfl, G2, LN2, LY2, H2⟩) (fun i x ρ hx hi Ji => ?_) (fun ρ hx Ji => ?_)
  · obtain ⟨o9, o10, e, F, Ln, Ly, Hx⟩ := (hJ _ _ _).mp Ji
    subst e
    obtain ⟨hi1, rfl⟩ := range_at hi
    have ob := works_ok hp (word := word) o2 i
    rw [wG_Var]
    refine ⟨trivial, ?_⟩
    refine work_step hp hi1 (fun b hb => hbk i b (by rw [← works_at (word := word) i (Nat.le_refl _)]; exact hb)) Z ob Hx (by omega) fun h' F' H' => ?_
    exact (hJ _ _ _).mpr ⟨_, _, rfl, F.trans (F'.mono WW), Ln.keep F' NW2, Ly.keep F' YW2, by rw [range_fold]; exact H'⟩
  obtain ⟨o9'', o10'', e, G3, LN3, LY3, H3⟩ := (hJ _ _ _).mp Ji
  subst e
  clear hJ Ji J
  rw [List.length_map, List.length_range] at H3
  have o3 := works_ok hp (word := word) o2 p.rows.length
  have em3 : (List.range p.rows.length).foldl (p.work1 word) (p.mo2 s word tags) = p.mo3 s word tags := rfl
  rw [em3] at H3 o3
  refine ⟨trivial, ?_⟩
  simp [LN3.i, nl]
  refine ⟨by omega, ?_⟩
  -- they go out
  obtain ⟨J, hJ⟩ : ∃ J : Nat → Rho → Hs → Prop, ∀ i ρ hx, J i ρ hx ↔ ∃ o9 o10, ρ = mR p.d s.d (.str word) (tagsD tags) B C K o7 (some (.loc Y)) o9 o10 (.int s.phase) (.tup (s.strikes.map D.int)) (.tup (s.gate.map Part.d)) R N I ∧ Fm (I :: R :: (bl ++ ql)) h hx ∧ Ls hx Y ((p.mo1 s word tags).2.map Part.d) ∧
      MoH hx B C R bl ql (p.outs i (p.mo3 s word tags)) := ⟨_, fun _ _ _ => Iff.rfl⟩
  refine wFor_inv J ((hJ _ _ _).mpr ⟨_, _, rfl, G3, LY3, H3⟩) (fun i x ρ hx hi Ji => ?_) (fun ρ hx Ji => ?_)
  · obtain ⟨o9, o10, e, F, Ly, Hx⟩ := (hJ _ _ _).mp Ji
    subst e
    obtain ⟨hi1, ex⟩ := rangeD_at hi
    have hi2 : i < p.rows.length := by omega
    have ex' : x = .int ((p.rows.length - 1 - i : Nat) : Int) := by rw [ex]; congr 1; omega
    subst ex'
    have ob := outs_ok o3 i
    rw [wG_Var]
    refine ⟨trivial, ?_⟩
    refine out_step hp (k := p.rows.length - 1 - i) (by omega) Z ob Hx (by omega) (by omega) fun h' o9' F' H' => ?_
    exact (hJ _ _ _).mpr ⟨_, _, rfl, F.trans (F'.mono WW), Ly.keep F' YW2, by unfold Pl.outs at H' ⊢; rw [range_fold]; exact H'⟩
  obtain ⟨o9''', o10''', e, G4, LY4, H4⟩ := (hJ _ _ _).mp Ji
  subst e
  clear hJ Ji J
  rw [rangeD_len] at H4
  have o4 := outs_ok o3 p.rows.length
  have em4 : p.outs p.rows.length (p.mo3 s word tags) = p.mo4 s word tags := rfl
  rw [em4] at H4 o4
  refine ⟨trivial, ?_⟩
  simp
  refine closed_ok hp H4.lb H4.pb H4.lc H4.pc LY4 (by rw [o4.bl]; omega) (by rw [o4.ql]; omega) (fun y hy => by have := (o4.part y hy).2; omega) (by simp at l1; omega) (by omega) fun h' f' => ?_
  have LR := H4.lr.keep0 f'
  have fin := q h' (G4.then0 f') LR
  exact fin
theorem idx_lt {word : Str} (h : word ∈ p.names) : p.names.idxOf word < p.rows.length := by
  have := List.idxOf_lt_length_of_mem h
  unfold Pl.names at this ⊢
  simpa using this
theorem struck_ok {s : Sta} {word : Str} {gb qb : Nat} (hs : StaOk p s gb qb) : MoOk p (p.struck word ⟨s.bays, s.queues, []⟩) qb 1 := by
  unfold Pl.struck
  split
  · exact {
      bl := by simp [hs.bl]
      ql := hs.ql
      hold := fun b hb => by
        rcases mem_modify hb with hb | ⟨b', hb', rfl⟩
        · exact hs.hold b hb
        · exact hs.hold b' (List.mem_of_getElem? hb')
      part := hs.part
      rows := by simp }
  · exact ⟨hs.bl, hs.ql, hs.hold, hs.part, by simp⟩
theorem moment_ok {s : Sta} {word : Str} {tags : List Int} {gb qb : Nat} {Q : QE} (hp : PlOk p) (hs : StaOk p s gb qb) (ht : tags = [] ∨ tags.length = (p.coming s.phase).length)
    (hbk : ∀ k b, (p.mo2 s word tags).bays[k]? = some b → BackOk p k b word) (g1 : gb ≤ 10000) (g2 : qb ≤ 1000000)
    (q : ∀ R h', Fm [] h h' → h.length ≤ R → Ls h' R ((p.told s word tags).map Row.d) → Q (.tup [(p.next s word tags).d, .loc R]) h') : wF F_law_moment [p.d, s.d, .str word, tagsD tags] h Q := by
  unfold F_law_moment
  refine wF_runK ?_
  unfold S_law_moment
  have n26 := hp.len
  simp only [↓wS_Seq, ↓wS_Set, ↓wE_Var]
  simp
  refine wLc_lists (enc := Bay.ds) (by simp) (by rw [hs.bl]; simp; omega) fun bl h1 f1 LB PB bB bnd => ?_
  have hB1 : h.length < h1.length := LB.lt
  obtain ⟨B, eB⟩ : ∃ B, B = h.length := ⟨_, rfl⟩
  rw [← eB] at LB bB ⊢
  refine wLc_lists (enc := fun q : List Part => q.map Part.d) (by simp) (by rw [hs.ql]; simp; omega) fun ql h2 f2 LC PC qB qnd => ?_
  have hC1 : h1.length < h2.length := LC.lt
  obtain ⟨C, eC⟩ : ∃ C, C = h1.length := ⟨_, rfl⟩
  rw [← eC] at LC qB ⊢
  replace LB := LB.keep0 f2; replace PB := PB.keep0 f2
  have LR0 := Ls.new h2 []
  have f3 : Fm [] h2 (h2 ++ [.lst []]) := (Fm.refl _ _).app _
  rw [show h2 ++ [AO.lst [], AO.lst []] = (h2 ++ [AO.lst []]) ++ [AO.lst []] by simp, show List.length h2 + 1 = (h2 ++ [AO.lst []]).length by simp]
  have hR1 := LR0.lt
  obtain ⟨R, eR⟩ : ∃ R, R = h2.length := ⟨_, rfl⟩
  rw [← eR] at LR0 hR1 qB ⊢
  generalize h2 ++ [AO.lst []] = h3 at *
  refine wLc_pureM (fun _ => true) (fun x : Stn => .str x.name) (by simp; omega) (fun _ _ => trivial) (fun x h1 hx f => by simp) (fun h4 f4 LN => ?_)
  have LN : Ls h4 h3.length (p.names.map D.str) := by
    rw [List.filter_eq_self.mpr (by simp)] at LN
    unfold Pl.names
    rw [List.map_map]
    exact LN
  have hN1 := LN.lt
  obtain ⟨N, eN⟩ : ∃ N, N = h3.length := ⟨_, rfl⟩
  rw [← eN] at LN hR1 hN1 ⊢
  have f5 : Fm [] h4 (h4 ++ [.lst (s.gate.map Part.d)]) := (Fm.refl _ _).app _
  have LI := Ls.new h4 (s.gate.map Part.d)
  obtain ⟨I, eI⟩ : ∃ I, I = h4.length := ⟨_, rfl⟩
  rw [← eI] at LI hN1
  simp only [← eI]
  generalize h4 ++ [AO.lst (s.gate.map Part.d)] = h5 at *
  have f35 := (f3.trans f4).trans f5
  replace LB := LB.keep0 f35; replace PB := PB.keep0 f35
  replace LC := LC.keep0 f35; replace PC := PC.keep0 f35
  replace LR0 := (LR0.keep0 f4).keep0 f5
  replace LN := LN.keep0 f5
  have Z : Lay B C R bl ql := by
    exact {
      bnd := bnd
      qnd := qnd
      dis := fun l hl hl' => by have := bB l hl; have := qB l hl'; omega
      br := fun z => by have := bB _ z; omega
      qr := fun z => by have := qB _ z; omega
      Bb := fun z => by have := bB _ z; omega
      Bq := fun z => by have := qB _ z; omega
      BR := by omega
      Cb := fun z => by have := bB _ z; omega
      Cq := fun z => by have := qB _ z; omega
      CR := by omega }
  have Nn : N ∉ allP B C R bl ql := by
    simp
    exact ⟨by omega, by omega, by omega, fun z => by have := bB _ z; omega, fun z => by have := qB _ z; omega⟩
  have In : I ∉ allP B C R bl ql := by
    simp
    exact ⟨by omega, by omega, by omega, fun z => by have := bB _ z; omega, fun z => by have := qB _ z; omega⟩
  have NI : N ≠ I := by omega
  have H : MoH h5 B C R bl ql ⟨s.bays, s.queues, []⟩ := ⟨LB, LC, PB, PC, LR0⟩
  have G : Fm [] h h5 := (f1.trans f2).trans f35
  have so := struck_ok (word := word) hs
  have GW : ∀ l ∈ I :: R :: (bl ++ ql), l ∈ ([] : List Nat) ∨ h.length ≤ l := by
    intro l hl
    right
    simp at hl
    rcases hl with rfl | rfl | hl | hl
    · omega
    · omega
    · have := bB _ hl; omega
    · have := qB _ hl; omega
  rw [in_strs (xs := p.names) (show seqAt h5 (.loc N) = _ from LN.i) (fun b => by simp)]
  by_cases hw : word ∈ p.names
  · have hi := idx_lt hw
    have hrow := Pl.row_at hi
    have ix : ∀ h', Ls h' N (p.names.map D.str) → indexM (.loc N) [.str word] h' = some (.int (p.names.idxOf word), h') := fun h' L => index_strs L.i hw
    obtain ⟨b, hb⟩ : ∃ b, s.bays[p.names.idxOf word]? = some b := ⟨_, List.getElem?_eq_getElem (by rw [hs.bl]; exact hi)⟩
    obtain ⟨l, hl, Lb⟩ := PB.get hb
    have hlm := List.mem_of_getElem? hl
    have lR : l ≠ R := fun e => Z.br (e ▸ hlm)
    have lN : l ≠ N := fun e => Nn (by simp [← e, hlm])
    have lI : l ≠ I := fun e => In (by simp [← e, hlm])
    replace Lb : Ls h5 l [.int b.broken, .int b.busy, .int b.used, .str b.kind, holdD b.hold] := Lb
    have ix2 := ix (h5.set l (.lst [.int (p.row (p.names.idxOf word)).repair, .int b.busy, .int b.used, .str b.kind, holdD b.hold])) (LN.oth lN)
    have em : p.struck word ⟨s.bays, s.queues, []⟩ = { bays := s.bays.set (p.names.idxOf word) { b with broken := (p.row (p.names.idxOf word)).repair }, queues := s.queues, rows := [⟨"struck", none, some (p.names.idxOf word), (p.row (p.names.idxOf word)).repair⟩] } := by
      unfold Pl.struck
      rw [if_pos hw]
      simp only [modify_at hb]
      rfl
    rw [em] at so
    simp [hw, isLst_of LN, ix h5 LN, hrow, LB.i, hl, Lb.l, Lb.lt, ixN, ix2, LR0.l, LR0.lt, LN.lt, lR]
    have F1 : Fm [l, R] h5 ((h5.set l (.lst [.int (p.row (p.names.idxOf word)).repair, .int b.busy, .int b.used, .str b.kind, holdD b.hold])).set R (.lst [.tup [.str (Str.ofString "struck"), .non, .int (p.names.idxOf word), .int (p.row (p.names.idxOf word)).repair]])) := ((Fm.refl _ _).set _ (.inl (by simp))).set _ (.inl (by simp))
    have H1 := H.bayR Z hl F1 (b := { b with broken := (p.row (p.names.idxOf word)).repair }) (rows := [⟨"struck", none, some (p.names.idxOf word), (p.row (p.names.idxOf word)).repair⟩])
      (by unfold Ls; simp [List.getElem?_set, Ne.symm lR, Lb.lt, Bay.ds]) (by unfold Ls; simp [List.getElem?_set, LR0.lt, Row.d])
    have LN1 := LN.keep F1 (by simp; exact ⟨Ne.symm lN, by omega⟩)
    have LI1 := LI.keep F1 (by simp; exact ⟨Ne.symm lI, by omega⟩)
    have G1 : Fm [] h _ := G.then F1 (by
      intro y hy
      simp at hy
      rcases hy with rfl | rfl
      · exact GW _ (by simp [hlm])
      · exact GW _ (by simp))
    simpa using moment_rest (Q := Q) hp hs.gate hs.glen hs.slen ht em.symm hbk g1 g2 Z so H1 LN1 Nn LI1 In NI fun h' F' L' => q R h' (G1.then F' GW) (by omega) L'
  · have em : p.struck word ⟨s.bays, s.queues, []⟩ = ⟨s.bays, s.queues, []⟩ := by unfold Pl.struck; rw [if_neg hw]
    rw [em] at so
    simp [hw]
    simpa using moment_rest (Q := Q) hp hs.gate hs.glen hs.slen ht em.symm hbk g1 g2 Z so H LN Nn LI In NI fun h' F' L' => q R h' (G.then F' GW) (by omega) L'
end
end MP

/-! text SP10 -/
set_option Elab.async false
set_option linter.all false
set_option maxRecDepth 100000
set_option maxHeartbeats 4000000
namespace MP
open PySem PySem.Spec PyProof.Rows
open L2 hiding St
/-! ### the line's states -/
def bay0 : Bay := ⟨0, 0, 0, ⟨#[]⟩, none⟩
def Pl.start (p : Pl) : Sta := ⟨0, [], p.rows.map fun _ => bay0, p.rows.map fun _ => [], []⟩
section
variable {p : Pl}
theorem start_sta : StaOk p p.start 0 0 where
  bl := by simp [Pl.start]
  ql := by simp [Pl.start]
  hold := fun b hb => by
    obtain ⟨_, _, rfl⟩ := List.mem_map.mp hb
    exact ⟨trivial, by simp [PyData.strOk, bay0]⟩
  part := fun q hq => by
    obtain ⟨_, _, rfl⟩ := List.mem_map.mp hq
    exact ⟨by simp, by simp⟩
  gate := by simp [Pl.start]
  glen := by simp [Pl.start]
  slen := by simp [Pl.start]
theorem mo0_ok (hp : PlOk p) {s : Sta} {word : Str} {tags : List Int} {gb qb : Nat} (hs : StaOk p s gb qb) : MoOk p (p.mo0 s word tags) qb 101 := by
  have := (struck_ok (word := word) hs).rowsA (rows := (p.fresh s.phase tags).map came) (n := 100) (by have := coming_len p s.phase; have := hp.olen; simp [fresh_len]; omega)
  exact this.mono (Nat.le_refl _) (by omega)
theorem inside_ok' (hp : PlOk p) {s : Sta} {tags : List Int} {gb qb : Nat} (hs : StaOk p s gb qb) : ∀ x ∈ s.gate ++ p.fresh s.phase tags, PartOk p x := fun x hx => by
  rcases List.mem_append.mp hx with hx | hx
  · exact hs.gate x hx
  · exact fresh_ok hp x hx
theorem inside_len (hp : PlOk p) {s : Sta} {tags : List Int} {gb qb : Nat} (hs : StaOk p s gb qb) : (s.gate ++ p.fresh s.phase tags).length ≤ gb + 100 := by
  have := coming_len p s.phase; have := hp.olen; have := hs.glen
  rw [List.length_append, fresh_len]; omega
theorem mo1_ok (hp : PlOk p) {s : Sta} {word : Str} {tags : List Int} {gb qb : Nat} (hs : StaOk p s gb qb) : MoOk p (p.mo1 s word tags).1 (qb + gb + 100) (gb + 201) ∧ (p.mo1 s word tags).2.length ≤ gb + 100 ∧ ∀ x ∈ (p.mo1 s word tags).2, PartOk p x := by
  obtain ⟨a, b, c⟩ := enter_ok (p := p) (m := p.mo0 s word tags) (qb := 0) (rb := 0) (s.gate ++ p.fresh s.phase tags) (p.mo0 s word tags) [] qb 101 (mo0_ok hp hs) (inside_ok' hp hs)
  have il := inside_len hp hs (tags := tags)
  exact ⟨a.mono (by omega) (by omega), by simp only [List.length_nil] at b; exact Nat.le_trans b (by omega), c (by simp)⟩
theorem mo2_ok (hp : PlOk p) {s : Sta} {word : Str} {tags : List Int} {gb qb : Nat} (hs : StaOk p s gb qb) : MoOk p (p.mo2 s word tags) (qb + gb + 100) (gb + 301) :=
  (begins_ok hp (mo1_ok hp hs).1 p.rows.length).mono (Nat.le_refl _) (by have := hp.len; omega)
theorem mo3_ok (hp : PlOk p) {s : Sta} {word : Str} {tags : List Int} {gb qb : Nat} (hs : StaOk p s gb qb) : MoOk p (p.mo3 s word tags) (qb + gb + 100) (gb + 401) :=
  (works_ok hp (mo2_ok hp hs) p.rows.length).mono (Nat.le_refl _) (by have := hp.len; omega)
theorem mo4_ok (hp : PlOk p) {s : Sta} {word : Str} {tags : List Int} {gb qb : Nat} (hs : StaOk p s gb qb) : MoOk p (p.mo4 s word tags) (qb + gb + 200) (gb + 501) :=
  (outs_ok (mo3_ok hp hs) p.rows.length).mono (by have := hp.len; omega) (by have := hp.len; omega)
theorem older_part {x : Part} (h : PartOk p x) : PartOk p x.older := ⟨h.ord, h.step⟩
theorem older_hold {o : Option (Part × Int)} (h : HoldOk p o) : HoldOk p (o.map fun q => (q.1.older, q.2)) := by
  cases o with
  | none => trivial
  | some q => exact h
theorem nextS_ok (hp : PlOk p) {s : Sta} {word : Str} {tags : List Int} {gb qb : Nat} (hs : StaOk p s gb qb) : StaOk p (p.next s word tags) (gb + 100) (qb + gb + 200) := by
  have o := mo4_ok (word := word) (tags := tags) hp hs
  have g := mo1_ok (word := word) (tags := tags) hp hs
  exact {
    bl := by simp [Pl.next, Pl.closed, o.bl]
    ql := by simp [Pl.next, Pl.closed, o.ql]
    hold := fun b hb => by
      obtain ⟨b', hb', rfl⟩ := List.mem_map.mp hb
      exact ⟨older_hold (o.hold b' hb').1, (o.hold b' hb').2⟩
    part := fun q hq => by
      obtain ⟨q', hq', rfl⟩ := List.mem_map.mp hq
      refine ⟨fun x hx => ?_, by simp; exact (o.part q' hq').2⟩
      obtain ⟨x', hx', rfl⟩ := List.mem_map.mp hx
      exact older_part ((o.part q' hq').1 x' hx')
    gate := fun x hx => by
      obtain ⟨x', hx', rfl⟩ := List.mem_map.mp hx
      exact older_part (g.2.2 x' hx')
    glen := by simp [Pl.next, Pl.closed]; exact g.2.1
    slen := by
      refine Nat.le_trans (List.length_filter_le _ _) ?_
      have := hs.slen
      simp
      split <;> simp <;> omega }
/-! ### rows that tell of a finished step -/
def FinOk (p : Pl) (r : Row) : Prop := r.word = (Str.ofString "finished") → ∃ x, r.part = some x ∧ PartOk p x ∧ r.num = x.step
theorem fin_other {w : Str} {a : Option Part} {b : Option Nat} {c : Int} (h : w ≠ (Str.ofString "finished")) : FinOk p ⟨w, a, b, c⟩ := fun e => absurd e h
theorem push_fin {m : Mo} {k : Nat} {x : Part} (h : ∀ r ∈ m.rows, FinOk p r) : ∀ r ∈ (m.push k x).rows, FinOk p r := fun r hr => by
  rcases List.mem_append.mp hr with hr | hr
  · exact h r hr
  · rw [List.mem_singleton.mp hr]; exact fin_other (by decide +kernel)
theorem begin_fin {k : Nat} {b : Bay} {x : Part} : ∀ r ∈ (p.begin k b x).2, FinOk p r := fun r hr => by
  unfold Pl.begin at hr
  dsimp only at hr
  split at hr
  · simp at hr
    rcases hr with rfl | rfl <;> exact fin_other (by decide +kernel)
  · simp at hr
    rw [hr]; exact fin_other (by decide +kernel)
theorem work_fin {k : Nat} {b : Bay} {word : Str} (hb : HoldOk p b.hold) : ∀ r ∈ (p.work k b word).2, FinOk p r := fun r hr => by
  unfold Pl.work at hr
  split at hr
  · simp at hr
  split at hr
  · simp at hr
  split at hr
  · simp at hr
  · rename_i x left e
    rw [e] at hb
    split at hr
    · rename_i hl
      dsimp only at hr
      split at hr
      · split at hr
        · simp at hr; rw [hr]; exact fin_other (by decide +kernel)
        · simp at hr; rw [hr]; exact fun _ => ⟨x, rfl, ⟨hb.1, hb.2.2.1 hl⟩, rfl⟩
      · simp at hr
    · simp at hr
theorem told_fin (hp : PlOk p) {s : Sta} {word : Str} {tags : List Int} {gb qb : Nat} (hs : StaOk p s gb qb) : ∀ r ∈ p.told s word tags, FinOk p r := by
  have h0 : ∀ r ∈ (p.mo0 s word tags).rows, FinOk p r := by
    intro r hr
    rcases List.mem_append.mp hr with hr | hr
    · unfold Pl.struck at hr
      split at hr
      · simp at hr; rw [hr]; exact fin_other (by decide +kernel)
      · simp at hr
    · obtain ⟨x, _, rfl⟩ := List.mem_map.mp hr
      exact fin_other (by decide +kernel)
  have h1 : ∀ (xs : List Part) (m : Mo) (st : List Part), (∀ r ∈ m.rows, FinOk p r) → ∀ r ∈ (xs.foldl p.enter1 (m, st)).1.rows, FinOk p r := by
    intro xs
    induction xs with
    | nil => exact fun m st h => h
    | cons x xs ih =>
      intro m st h
      refine ih (p.enter1 (m, st) x).1 (p.enter1 (m, st) x).2 ?_
      unfold Pl.enter1
      split
      · exact push_fin h
      · exact h
  have h2 : ∀ i, ∀ r ∈ ((List.range i).foldl p.begin1 (p.mo1 s word tags).1).rows, FinOk p r := by
    intro i
    induction i with
    | zero => exact h1 _ _ _ h0
    | succ i ih =>
      rw [range_fold]
      intro r hr
      unfold Pl.begin1 at hr
      split at hr
      · split at hr
        · rcases List.mem_append.mp hr with hr | hr
          · exact ih r hr
          · exact begin_fin r hr
        · exact ih r hr
      · exact ih r hr
  have h3 : ∀ i, ∀ r ∈ ((List.range i).foldl (p.work1 word) (p.mo2 s word tags)).rows, FinOk p r := by
    intro i
    induction i with
    | zero => exact h2 _
    | succ i ih =>
      rw [range_fold]
      have o := works_ok hp (word := word) (mo2_ok hp hs (word := word) (tags := tags)) i
      intro r hr
      unfold Pl.work1 at hr
      split at hr
      · rename_i b hb
        rcases List.mem_append.mp hr with hr | hr
        · exact ih r hr
        · exact work_fin (o.hold b (List.mem_of_getElem? hb)).1 r hr
      · exact ih r hr
  have h4 : ∀ i, ∀ r ∈ (p.outs i (p.mo3 s word tags)).rows, FinOk p r := by
    intro i
    induction i with
    | zero => exact h3 _
    | succ i ih =>
      unfold Pl.outs
      rw [range_fold]
      intro r hr
      unfold Pl.out1 at hr
      split at hr
      · split at hr
        · split at hr
          · rcases List.mem_append.mp hr with hr | hr
            · exact ih r hr
            · rw [List.mem_singleton.mp hr]; exact fin_other (by decide +kernel)
          · split at hr
            · exact push_fin ih r hr
            · exact ih r hr
        · exact ih r hr
      · exact ih r hr
  exact h4 _
/-! ### tags forgotten -/
def Part.er (x : Part) : Part := { x with tag := none }
def Bay.er (b : Bay) : Bay := { b with hold := b.hold.map fun q => (q.1.er, q.2) }
def Row.er (r : Row) : Row := { r with part := r.part.map Part.er }
def Mo.er (m : Mo) : Mo := ⟨m.bays.map Bay.er, m.queues.map fun q => q.map Part.er, m.rows.map Row.er⟩
def Sta.er (s : Sta) : Sta := ⟨s.phase, s.strikes, s.bays.map Bay.er, s.queues.map fun q => q.map Part.er, s.gate.map Part.er⟩
theorem map_modify {α β : Type} (g : α → β) (f : α → α) (f' : β → β) (h : ∀ x, g (f x) = f' (g x)) (xs : List α) (k : Nat) : (xs.modify k f).map g = (xs.map g).modify k f' := by
  refine List.ext_getElem? fun i => ?_
  rw [List.getElem?_map, List.getElem?_modify, List.getElem?_modify, List.getElem?_map]
  cases xs[i]? with
  | none => rfl
  | some x =>
    by_cases hk : k = i
    · simp [hk, h]
    · simp [hk]
theorem map_set' {α β : Type} (g : α → β) (xs : List α) (k : Nat) (y : α) : (xs.set k y).map g = (xs.map g).set k (g y) := by rw [List.map_set]
theorem qlen_er (m : Mo) (k : Nat) : m.er.qlen k = m.qlen k := by
  unfold Mo.qlen Mo.er
  simp
  cases m.queues[k]? <;> simp
theorem push_er (m : Mo) (k : Nat) (x : Part) : (m.push k x).er = m.er.push k x.er := by
  have e := qlen_er m k
  unfold Mo.push
  rw [e]
  unfold Mo.er
  simp only [Mo.mk.injEq]
  refine ⟨trivial, ?_, by simp [Row.er]⟩
  exact map_modify _ _ _ (fun q => by simp) _ _
theorem free_er (m : Mo) (k : Nat) : (m.free k).er = m.er.free k := by
  unfold Mo.free Mo.er
  simp only [Mo.mk.injEq]
  refine ⟨?_, trivial, trivial⟩
  exact map_modify Bay.er (fun b => { b with hold := none }) (fun b => { b with hold := none }) (fun b => rfl) _ _
theorem enter1_er (m : Mo) (st : List Part) (x : Part) : p.enter1 (m.er, st.map Part.er) x.er = ((p.enter1 (m, st) x).1.er, (p.enter1 (m, st) x).2.map Part.er) := by
  have e1 : p.goal x.er = p.goal x := rfl
  unfold Pl.enter1
  simp only [e1, qlen_er]
  split
  · rw [push_er]
  · simp
theorem begin_er (k : Nat) (b : Bay) (x : Part) : p.begin k b.er x.er = ((p.begin k b x).1.er, (p.begin k b x).2.map Row.er) := by
  have e1 : p.kindOf x.er = p.kindOf x := rfl
  have e2 : p.now x.er = p.now x := rfl
  have e3 : b.er.kind = b.kind := rfl
  have e4 : b.er.used = b.used := rfl
  unfold Pl.begin
  simp only [e1, e2, e3, e4]
  split <;> simp [Bay.er, Row.er]
theorem begin1_er (m : Mo) (k : Nat) : (p.begin1 m k).er = p.begin1 m.er k := by
  unfold Pl.begin1
  have e1 : m.er.bays[k]? = (m.bays[k]?).map Bay.er := by unfold Mo.er; simp
  have e2 : m.er.queues[k]? = (m.queues[k]?).map (fun q => q.map Part.er) := by unfold Mo.er; simp
  rw [e1, e2]
  cases m.bays[k]? with
  | none => rfl
  | some b =>
    cases m.queues[k]? with
    | none => rfl
    | some q =>
      cases q with
      | nil => rfl
      | cons x q =>
        simp only [Option.map_some, List.map_cons]
        have e3 : b.er.broken = b.broken := rfl
        have e4 : b.er.hold = none ↔ b.hold = none := by unfold Bay.er; simp
        simp only [e3, e4]
        split
        · rw [begin_er]
          unfold Mo.er
          simp [map_set']
        · rfl
theorem work_er (k : Nat) (b : Bay) (word : Str) : p.work k b.er word = ((p.work k b word).1.er, (p.work k b word).2.map Row.er) := by
  have e3 : b.er.broken = b.broken := rfl
  have e4 : b.er.busy = b.busy := rfl
  have e5 : b.er.hold = b.hold.map fun q => (q.1.er, q.2) := rfl
  unfold Pl.work
  simp only [e3, e4, e5]
  split
  · simp [Bay.er]
  split
  · simp [Bay.er]
  cases hh : b.hold with
  | none => simp
  | some q =>
    obtain ⟨x, left⟩ := q
    simp only [Option.map_some]
    split
    · split
      · have e6 : p.now x.er = p.now x := rfl
        simp only [e6]
        split <;> simp [Bay.er, Row.er, Part.er]
      · simp [Bay.er]
    · simp
theorem work1_er (word : Str) (m : Mo) (k : Nat) : (p.work1 word m k).er = p.work1 word m.er k := by
  unfold Pl.work1
  have e1 : m.er.bays[k]? = (m.bays[k]?).map Bay.er := by unfold Mo.er; simp
  rw [e1]
  cases m.bays[k]? with
  | none => rfl
  | some b =>
    simp only [Option.map_some, work_er]
    unfold Mo.er
    simp [map_set']
theorem out1_er (m : Mo) (k : Nat) : (p.out1 m k).er = p.out1 m.er k := by
  unfold Pl.out1
  have e1 : m.er.bays[k]? = (m.bays[k]?).map Bay.er := by unfold Mo.er; simp
  rw [e1]
  cases m.bays[k]? with
  | none => rfl
  | some b =>
    have e5 : b.er.hold = b.hold.map fun q => (q.1.er, q.2) := rfl
    simp only [Option.map_some, Option.bind_some, e5]
    cases b.hold with
    | none => rfl
    | some q =>
      obtain ⟨x, left⟩ := q
      simp only [Option.map_some, qlen_er]
      have e6 : p.way x.er = p.way x := rfl
      have e7 : p.goal x.er = p.goal x := rfl
      have e8 : x.er.step = x.step := rfl
      simp only [e6, e7, e8]
      split
      · split
        · rw [free_er]
          congr 1
          unfold Mo.er
          simp [Row.er, Part.er]
        · split
          · rw [free_er, push_er]
          · rfl
      · rfl
theorem struck_er (word : Str) (m : Mo) : (p.struck word m).er = p.struck word m.er := by
  unfold Pl.struck
  split
  · unfold Mo.er
    simp only [Mo.mk.injEq]
    refine ⟨?_, trivial, by simp [Row.er]⟩
    exact map_modify Bay.er (fun b => { b with broken := (p.row (p.names.idxOf word)).repair }) (fun b => { b with broken := (p.row (p.names.idxOf word)).repair }) (fun b => rfl) _ _
  · rfl
theorem fresh_er (phase : Int) (tags : List Int) : (p.fresh phase tags).map Part.er = p.fresh phase [] := by
  unfold Pl.fresh
  refine List.ext_getElem? fun i => ?_
  rw [List.getElem?_map, List.getElem?_mapIdx, List.getElem?_mapIdx]
  cases (p.coming phase)[i]? <;> rfl
theorem mo0_er (s : Sta) (word : Str) (tags : List Int) : (p.mo0 s word tags).er = p.mo0 s.er word [] := by
  have e := struck_er (p := p) word ⟨s.bays, s.queues, []⟩
  have e' : ({ bays := s.bays, queues := s.queues, rows := [] } : Mo).er = ⟨s.er.bays, s.er.queues, []⟩ := rfl
  rw [e'] at e
  have f := fresh_er (p := p) s.phase tags
  unfold Pl.mo0
  show Mo.er _ = { (p.struck word ⟨s.er.bays, s.er.queues, []⟩) with rows := (p.struck word ⟨s.er.bays, s.er.queues, []⟩).rows ++ (p.fresh s.phase []).map came }
  rw [← e, ← f]
  unfold Mo.er
  simp [came, Row.er, Function.comp_def, Part.er]
theorem mo1_er (s : Sta) (word : Str) (tags : List Int) : p.mo1 s.er word [] = ((p.mo1 s word tags).1.er, (p.mo1 s word tags).2.map Part.er) := by
  unfold Pl.mo1
  rw [← mo0_er (tags := tags)]
  have : s.er.gate ++ p.fresh s.er.phase [] = (s.gate ++ p.fresh s.phase tags).map Part.er := by
    rw [List.map_append, fresh_er]; rfl
  rw [this]
  have key : ∀ (xs : List Part) (m : Mo) (st : List Part), (xs.map Part.er).foldl p.enter1 (m.er, st.map Part.er) = ((xs.foldl p.enter1 (m, st)).1.er, (xs.foldl p.enter1 (m, st)).2.map Part.er) := by
    intro xs
    induction xs with
    | nil => exact fun m st => rfl
    | cons x xs ih =>
      intro m st
      rw [List.map_cons, List.foldl_cons, List.foldl_cons, enter1_er]
      exact ih _ _
  exact key _ _ []
theorem mo2_er (s : Sta) (word : Str) (tags : List Int) : (p.mo2 s word tags).er = p.mo2 s.er word [] := by
  unfold Pl.mo2
  have key : ∀ i (m : Mo), ((List.range i).foldl p.begin1 m).er = (List.range i).foldl p.begin1 m.er := by
    intro i m
    induction i with
    | zero => rfl
    | succ i ih => rw [range_fold, range_fold, begin1_er, ih]
  rw [key, mo1_er s word tags]
theorem mo3_er (s : Sta) (word : Str) (tags : List Int) : (p.mo3 s word tags).er = p.mo3 s.er word [] := by
  unfold Pl.mo3
  have key : ∀ i (m : Mo), ((List.range i).foldl (p.work1 word) m).er = (List.range i).foldl (p.work1 word) m.er := by
    intro i m
    induction i with
    | zero => rfl
    | succ i ih => rw [range_fold, range_fold, work1_er, ih]
  rw [key, mo2_er]
theorem outs_er (i : Nat) (m : Mo) : (p.outs i m).er = p.outs i m.er := by
  unfold Pl.outs
  induction i with
  | zero => rfl
  | succ i ih => rw [range_fold, range_fold, out1_er, ih]
theorem mo4_er (s : Sta) (word : Str) (tags : List Int) : (p.mo4 s word tags).er = p.mo4 s.er word [] := by
  unfold Pl.mo4
  rw [outs_er, mo3_er]
theorem told_er (s : Sta) (word : Str) (tags : List Int) : (p.told s word tags).map Row.er = p.told s.er word [] := by
  unfold Pl.told
  rw [← mo4_er (tags := tags)]
  rfl
theorem next_er (s : Sta) (word : Str) (tags : List Int) : (p.next s word tags).er = p.next s.er word [] := by
  unfold Pl.next
  rw [← mo4_er (tags := tags), mo1_er s word tags]
  unfold Sta.er Pl.closed Mo.er
  simp [Function.comp_def, Bay.older, Bay.er, Part.older, Part.er]
end
end MP

/-! text SP11 -/
set_option Elab.async false
set_option linter.all false
set_option maxRecDepth 100000
set_option maxHeartbeats 4000000
namespace MP
open PySem PySem.Spec PyProof.Rows
open L2 hiding St
/-! ### the strikes that are open -/
def bang (nm : Str) : Str := nm ++ (Str.ofString "!")
def Pl.spoils (p : Pl) (k : Nat) (r : Row) : Bool := decide (r.word = (Str.ofString "finished")) && (decide (r.at_ = some k) && match r.part with
  | some x => decide (x.again < p.most) && ((p.way x)[r.num.toNat]?.bind Stp1.back).isSome
  | none => false)
def Pl.openAt (p : Pl) (s : Sta) (rows : List Row) (k : Nat) : List Str :=
  (if ((s.bays[k]?).map Bay.broken).getD 1 = 0 then [(p.row k).name] else []) ++ (rows.filter (p.spoils k)).map fun _ => bang (p.row k).name
def Pl.open (p : Pl) (s : Sta) : List Str := if p.often ≤ s.strikes.length then [(Str.ofString "-")] else (Str.ofString "-") :: (List.range p.rows.length).flatMap (p.openAt s (p.told s (Str.ofString "-") []))
section
variable {p : Pl} {h : Hs} {Q : QE}
theorem start_ok (hp : PlOk p) (q : ∀ h', Fm [] h h' → Q p.start.d h') : wF F_law_start [p.d] h Q := by
  have hl := hp.len
  unfold F_law_start
  refine wF_runK ?_
  unfold S_law_start
  simp
  refine wLc_mapM (fun _ : Stn => bayD bay0) (by simp; omega) (fun _ _ => trivial) (fun x h1 hx f => by simp [bayD, bay0, Bay.ds]; rfl) (fun h1 f1 L1 => ?_)
  simp [L1.i]
  refine wLc_mapM (fun _ : Stn => .tup []) (by simp; omega) (fun _ _ => trivial) (fun x h1 hx f => by simp) (fun h2 f2 L2 => ?_)
  simp [L2.i]
  have e : D.tup [.int 0, .tup [], .tup (p.rows.map fun _ => bayD bay0), .tup (p.rows.map fun _ => .tup []), .tup []] = p.start.d := by
    simp [Pl.start, Sta.d, Function.comp_def, queueD]
  rw [e]
  exact q h2 (f1.trans f2)
theorem row_d_num {r : Row} {x : Part} (hx : PartOk p x) (e : r.num = x.step) : (p.way x)[r.num.toNat]? = some (p.now x) := by
  rw [e, Int.toNat_natCast]
  exact Pl.way_at hx.step
/-- one row's look -/
theorem open_row {k f R : Nat} {s : Sta} {r : Row} {found : List Str} {Q : QS} (hp : PlOk p) (hk : k < p.rows.length) (hr : FinOk p r) (L : Ls h f (found.map D.str)) (hl : found.length ≤ 10000000)
    (q : ∀ h', Fm [f] h h' → Ls h' f ((found ++ if p.spoils k r then [bang (p.row k).name] else []).map D.str) → Q .nx [some p.d, some s.d, some (.loc f), some (.loc R), some (.int k), some r.d] h') :
    wS (sSeq (sIf (bAnd (bBool (mOp2 eqO (mOp2 ixO (mVar 5) (mC (.int 0))) (mC (.str "finished")))) (bAnd (bBool (mOp2 eqO (mOp2 ixO (mVar 5) (mC (.int 2))) (mVar 4))) (bAnd (bBool (mOp2 ltO (mOp2 ixO (mOp2 ixO (mVar 5) (mC (.int 1))) (mC (.int 3))) (mOp2 ixO (mVar 0) (mC (.int 6))))) (bBool (mOp2 isNotO (mOp2 ixO (mOp2 ixO (mCallF 2 F_law_way (aCons (mVar 0) (aCons (mOp2 ixO (mVar 5) (mC (.int 1))) aNil))) (mOp2 ixO (mVar 5) (mC (.int 3)))) (mC (.int 2))) (mC .non)))))) (sSeq (sExpr (mMeth isLst appendM (mVar 2) (aCons (mOp2 addD (mOp2 ixO (mOp2 ixO (mOp2 ixO (mVar 0) (mC (.int 0))) (mVar 4)) (mC (.int 0))) (mC (.str "!"))) aNil))) sNext) sNext) sNext) [some p.d, some s.d, some (.loc f), some (.loc R), some (.int k), some r.d] h Q := by
  have hrow := Pl.row_at hk
  have nm := (hp.row _ (List.mem_of_getElem? hrow)).2
  have e0 : ∀ b : Bool, p.spoils k r = b → wS (sSeq (sIf (bAnd (bBool (mOp2 eqO (mOp2 ixO (mVar 5) (mC (.int 0))) (mC (.str "finished")))) (bAnd (bBool (mOp2 eqO (mOp2 ixO (mVar 5) (mC (.int 2))) (mVar 4))) (bAnd (bBool (mOp2 ltO (mOp2 ixO (mOp2 ixO (mVar 5) (mC (.int 1))) (mC (.int 3))) (mOp2 ixO (mVar 0) (mC (.int 6))))) (bBool (mOp2 isNotO (mOp2 ixO (mOp2 ixO (mCallF 2 F_law_way (aCons (mVar 0) (aCons (mOp2 ixO (mVar 5) (mC (.int 1))) aNil))) (mOp2 ixO (mVar 5) (mC (.int 3)))) (mC (.int 2))) (mC .non)))))) (sSeq (sExpr (mMeth isLst appendM (mVar 2) (aCons (mOp2 addD (mOp2 ixO (mOp2 ixO (mOp2 ixO (mVar 0) (mC (.int 0))) (mVar 4)) (mC (.int 0))) (mC (.str "!"))) aNil))) sNext) sNext) sNext) [some p.d, some s.d, some (.loc f), some (.loc R), some (.int k), some r.d] h Q := by
    intro b hb
    rw [hb] at q
    have qno : b = false → Q .nx [some p.d, some s.d, some (.loc f), some (.loc R), some (.int k), some r.d] h := fun e => by subst e; exact q h (Fm.refl _ _) (by simpa using L)
    simp
    by_cases c1 : r.word = (Str.ofString "finished")
    · obtain ⟨x, ex, hx, en⟩ := hr c1
      simp [c1, ex]
      cases ea : r.at_ with
      | none =>
        simp
        refine qno ?_
        rw [← hb]; unfold Pl.spoils; simp [ea]
      | some j =>
        simp
        by_cases c2 : j = k
        · subst c2
          simp
          by_cases c3 : x.again < p.most
          · simp [c3]
            refine way_ok hp hx.ord fun h1 f1 => ?_
            have eb : p.spoils j r = (p.now x).back.isSome := by
              unfold Pl.spoils
              simp [c1, ea, ex, c3, row_d_num hx en]
            have es : ∀ h, ixO (.tup ((p.way x).map Stp1.d)) (.int r.num) h = some ((p.now x).d, h) := fun h => by
              rw [en, ix_tup, atI_cast, List.getElem?_map, Pl.way_at hx.step]; rfl
            simp only [es, wO_some]
            simp
            rw [hb] at eb
            cases c4 : (p.now x).back with
            | none =>
              rw [c4] at eb
              simp
              have := qno eb
              subst eb
              exact q h1 f1.of0 (by simpa using L.keep0 f1)
            | some bk =>
              rw [c4] at eb
              subst eb
              have n1 : (p.row j).name.length ≤ 16777215 := by have := nm.top; omega
              have n2 : (Str.ofString "!").length = 1 := rfl
              have L1 := L.keep0 f1
              have n3 : found.length < 16777216 := by omega
              simp [hrow, n1, n2, L1.l, L1.lt, n3]
              have Ff : ∀ o, Fm [f] h (h1.set f o) := fun o => (f1.of0 : Fm [f] h h1).set o (.inl (by simp))
              exact q _ (Ff _) (by simpa [bang] using L1.set (found.map D.str ++ [.str ((p.row j).name ++ Str.ofString "!")]))
          · simp [c3]
            refine qno ?_
            rw [← hb]; unfold Pl.spoils; simp [ex, c3]
        · have c2' : ¬ ((j : Int) = (k : Int)) := by omega
          simp [c2']
          refine qno ?_
          rw [← hb]; unfold Pl.spoils; simp [ea, c2]
    · simp [c1]
      refine qno ?_
      rw [← hb]; unfold Pl.spoils; simp [c1]
  exact e0 _ rfl
theorem open_ok {s : Sta} {gb qb : Nat} {Q : QE} (hp : PlOk p) (hs : StaOk p s gb qb) (g1 : gb ≤ 10000) (g2 : qb ≤ 1000000) (hbk : ∀ k b, (p.mo2 s (Str.ofString "-") []).bays[k]? = some b → BackOk p k b (Str.ofString "-"))
    (q : ∀ f h', Fm [] h h' → h.length ≤ f → Ls h' f ((p.open s).map D.str) → (p.open s).length ≤ 1000000 → Q (.loc f) h') : wF F_law_open [p.d, s.d] h Q := by
  have n26 := hp.len
  unfold F_law_open
  refine wF_runK ?_
  unfold S_law_open
  simp
  have f0 : Fm [] h (h ++ [.lst [.str (Str.ofString "-")]]) := (Fm.refl _ _).app _
  have L0 := Ls.new h [.str (Str.ofString "-")]
  obtain ⟨f, ef⟩ : ∃ f, f = h.length := ⟨_, rfl⟩
  rw [← ef] at L0 ⊢
  have hf : f < (h ++ [AO.lst [.str (Str.ofString "-")]]).length := L0.lt
  have fz : h.length ≤ f := by omega
  generalize h ++ [AO.lst [.str (Str.ofString "-")]] = h0 at *
  by_cases c : p.often ≤ (s.strikes.length : Int)
  · simp [c]
    refine q f h0 f0 fz ?_ ?_
    · unfold Pl.open
      rw [if_pos c]
      exact L0
    · unfold Pl.open
      rw [if_pos c]
      simp
  · simp [c]
    refine moment_ok (tags := []) hp hs (.inl rfl) hbk g1 g2 fun R h1 f1 hR LR => ?_
    simp
    refine ⟨by omega, ?_⟩
    unfold rangeD
    simp
    have L1 := L0.keep0 f1
    have told := told_fin hp hs (word := (Str.ofString "-")) (tags := [])
    have rl := (mo4_ok hp hs (word := (Str.ofString "-")) (tags := [])).rows
    have rl : (p.told s (Str.ofString "-") []).length ≤ gb + 501 := rl
    generalize hrows : p.told s (Str.ofString "-") [] = rows at *
    have RF : R ≠ f := by
      intro e; subst e
      have := Ls.i L1
      have h2 := LR.i
      rw [this] at h2
      cases rows with
      | nil => cases h2
      | cons r rs => simp [Row.d] at h2
    obtain ⟨J, hJ⟩ : ∃ J : Nat → Rho → Hs → Prop, ∀ i ρ hx, J i ρ hx ↔ ∃ o4 o5, ρ = [some p.d, some s.d, some (.loc f), some (.loc R), o4, o5] ∧ Fm [] h hx ∧ Ls hx R (rows.map Row.d) ∧
        Ls hx f (((Str.ofString "-") :: (List.range i).flatMap (p.openAt s rows)).map D.str) ∧ ((Str.ofString "-") :: (List.range i).flatMap (p.openAt s rows)).length ≤ i * 20000 + 1 := ⟨_, fun _ _ _ => Iff.rfl⟩
    refine wFor_inv J ((hJ _ _ _).mpr ⟨none, none, rfl, f0.trans f1, LR, by simpa using L1, by simp⟩) (fun k x ρ hx hi Ji => ?_) (fun ρ hx Ji => ?_)
    · obtain ⟨o4, o5, e, F, Lr, Lf, hl⟩ := (hJ _ _ _).mp Ji
      subst e
      obtain ⟨hk, rfl⟩ := range_at hi
      have hrow := Pl.row_at hk
      obtain ⟨b, hb⟩ : ∃ b, s.bays[k]? = some b := ⟨_, List.getElem?_eq_getElem (by rw [hs.bl]; exact hk)⟩
      have ek : (List.range (k + 1)).flatMap (p.openAt s rows) = (List.range k).flatMap (p.openAt s rows) ++ p.openAt s rows k := by rw [List.range_succ, List.flatMap_append]; simp
      -- the rows, after the first look
      have look : ∀ (hy : Hs) (found : List Str) (o5 : Option D), Fm [] h hy → Ls hy R (rows.map Row.d) → Ls hy f (found.map D.str) → found.length ≤ k * 20000 + 2 →
          (found ++ (rows.filter (p.spoils k)).map fun _ => bang (p.row k).name) = (Str.ofString "-") :: ((List.range k).flatMap (p.openAt s rows) ++ p.openAt s rows k) →
          wFor (some (R, rows.map Row.d)) (gVar 5) (sSeq (sIf (bAnd (bBool (mOp2 eqO (mOp2 ixO (mVar 5) (mC (.int 0))) (mC (.str "finished")))) (bAnd (bBool (mOp2 eqO (mOp2 ixO (mVar 5) (mC (.int 2))) (mVar 4))) (bAnd (bBool (mOp2 ltO (mOp2 ixO (mOp2 ixO (mVar 5) (mC (.int 1))) (mC (.int 3))) (mOp2 ixO (mVar 0) (mC (.int 6))))) (bBool (mOp2 isNotO (mOp2 ixO (mOp2 ixO (mCallF 2 F_law_way (aCons (mVar 0) (aCons (mOp2 ixO (mVar 5) (mC (.int 1))) aNil))) (mOp2 ixO (mVar 5) (mC (.int 3)))) (mC (.int 2))) (mC .non)))))) (sSeq (sExpr (mMeth isLst appendM (mVar 2) (aCons (mOp2 addD (mOp2 ixO (mOp2 ixO (mOp2 ixO (mVar 0) (mC (.int 0))) (mVar 4)) (mC (.int 0))) (mC (.str "!"))) aNil))) sNext) sNext) sNext) (rows.map Row.d) [some p.d, some s.d, some (.loc f), some (.loc R), some (.int k), o5] hy (seqK sNext (loopK (J (k + 1)) (seqK (sSeq (sRet (mVar 2)) sNext) (retK Q)))) := by
        intro hy found o5 Fy Ly Lfy hly efy
        obtain ⟨J2, hJ2⟩ : ∃ J : Nat → Rho → Hs → Prop, ∀ i ρ hx, J i ρ hx ↔ ∃ o5, ρ = [some p.d, some s.d, some (.loc f), some (.loc R), some (.int k), o5] ∧ Fm [] h hx ∧ Ls hx R (rows.map Row.d) ∧
            Ls hx f ((found ++ ((rows.take i).filter (p.spoils k)).map fun _ => bang (p.row k).name).map D.str) := ⟨_, fun _ _ _ => Iff.rfl⟩
        refine wFor_inv J2 ((hJ2 _ _ _).mpr ⟨o5, rfl, Fy, Ly, by simpa using Lfy⟩) (fun j x ρ hz hj Jj => ?_) (fun ρ hz Jj => ?_)
        · obtain ⟨o5, e, Fz, Lz, Lfz⟩ := (hJ2 _ _ _).mp Jj
          subst e
          rw [List.getElem?_map] at hj
          cases er : rows[j]? with
          | none => rw [er] at hj; cases hj
          | some r =>
          rw [er] at hj
          cases hj
          have jl := (List.getElem?_eq_some_iff.mp er).1
          have et : rows.take (j + 1) = rows.take j ++ [r] := by rw [List.take_add_one, er]; rfl
          rw [wG_Var]
          refine ⟨Lz.i, ?_⟩
          have fl : (((rows.take j).filter (p.spoils k)).map fun _ => bang (p.row k).name).length ≤ gb + 501 := by
            rw [List.length_map]
            exact Nat.le_trans (List.length_filter_le _ _) (by simp; omega)
          refine open_row hp hk (told r (List.mem_of_getElem? er)) Lfz (by rw [List.length_append]; omega) fun h' F' L' => ?_
          refine (hJ2 _ _ _).mpr ⟨_, rfl, Fz.then1 F' (.inr fz), Lz.keep F' (by simpa using RF), ?_⟩
          have e3 : found ++ ((rows.take (j + 1)).filter (p.spoils k)).map (fun _ => bang (p.row k).name) = (found ++ ((rows.take j).filter (p.spoils k)).map fun _ => bang (p.row k).name) ++ if p.spoils k r then [bang (p.row k).name] else [] := by
            rw [et, List.filter_append]
            cases cs : p.spoils k r <;> simp [cs]
          rw [e3]
          exact L'
        · obtain ⟨o5, e, Fz, Lz, Lfz⟩ := (hJ2 _ _ _).mp Jj
          subst e
          rw [List.length_map, List.take_length] at Lfz
          refine ⟨Lz.i, ?_⟩
          simp
          refine (hJ _ _ _).mpr ⟨_, _, rfl, Fz, Lz, ?_, ?_⟩
          · rw [ek, ← efy]; exact Lfz
          · rw [ek, ← efy, List.length_append, List.length_map]
            have := List.length_filter_le (p.spoils k) rows
            omega
      by_cases c2 : b.broken = 0
      · have n1 : ((List.range k).flatMap (p.openAt s rows)).length + 1 ≤ k * 20000 + 1 := hl
        have n2 : ((List.range k).flatMap (p.openAt s rows)).length + 1 < 16777216 := by omega
        have Lfi : isLst hx (.loc f) = true := isLst_of Lf
        have Lfl : lstAt hx f = some (.str (Str.ofString "-") :: ((List.range k).flatMap (p.openAt s rows)).map D.str) := Lf.l
        generalize ((List.range k).flatMap (p.openAt s rows)) = pre at *
        simp [hb, c2, Lfi, hrow, Lfl, n2]
        refine ⟨_, (Lr.oth (Ne.symm RF)).i, ?_⟩
        have Ff : ∀ o, Fm [] h (hx.set f o) := fun o => F.set o (.inr fz)
        refine look _ ((Str.ofString "-") :: pre ++ [(p.row k).name]) o5 (Ff _) (Lr.oth (Ne.symm RF)) (by simpa using Lf.set (.str (Str.ofString "-") :: (pre.map D.str ++ [.str (p.row k).name]))) (by simp; omega) ?_
        unfold Pl.openAt
        simp [hb, c2]
      · simp [hb, c2]
        refine ⟨_, Lr.i, ?_⟩
        refine look hx ((Str.ofString "-") :: (List.range k).flatMap (p.openAt s rows)) o5 F Lr Lf (Nat.le_succ_of_le hl) ?_
        unfold Pl.openAt
        simp [hb, c2]
    · obtain ⟨o4, o5, e, F, Lr, Lf, hl⟩ := (hJ _ _ _).mp Ji
      subst e
      rw [List.length_map, List.length_range] at Lf
      refine ⟨trivial, ?_⟩
      simp
      rw [List.length_map, List.length_range] at hl
      refine q f hx F fz ?_ ?_
      · unfold Pl.open
        rw [if_neg c, hrows]
        exact Lf
      · unfold Pl.open
        rw [if_neg c, hrows]
        exact Nat.le_trans hl (by omega)
end
end MP

/-! text SP12 -/
set_option Elab.async false
set_option linter.all false
set_option maxRecDepth 100000
set_option maxHeartbeats 4000000
namespace MP
open PySem PySem.Spec PyProof.Rows
open L2 hiding St
/-! ### a moment's rows, by what they come from -/
abbrev dash : Str := Str.ofString "-"
def quiet (r : Row) : Prop := r.word ∈ [Str.ofString "came", Str.ofString "queued", Str.ofString "changed", Str.ofString "took", Str.ofString "done"]
def Pl.strikeRows (p : Pl) (word : Str) : List Row := if word ∈ p.names then [⟨Str.ofString "struck", none, some (p.names.idxOf word), (p.row (p.names.idxOf word)).repair⟩] else []
def Pl.workAt (p : Pl) (m : Mo) (word : Str) (k : Nat) : List Row := match m.bays[k]? with
  | some b => (p.work k b word).2
  | none => []
def Pl.workRows (p : Pl) (s : Sta) (word : Str) (tags : List Int) : List Row := (List.range p.rows.length).flatMap (p.workAt (p.mo2 s word tags) word)
section
variable {p : Pl}
/-- rows that are only added to, by quiet ones -/
def Grows (m m' : Mo) : Prop := ∃ X, m'.rows = m.rows ++ X ∧ ∀ r ∈ X, quiet r
theorem Grows.refl (m : Mo) : Grows m m := ⟨[], by simp, by simp⟩
theorem Grows.trans {a b c : Mo} (h : Grows a b) (g : Grows b c) : Grows a c := by
  obtain ⟨X, e, q⟩ := h
  obtain ⟨Y, e', q'⟩ := g
  refine ⟨X ++ Y, by rw [e', e, List.append_assoc], fun r hr => ?_⟩
  rcases List.mem_append.mp hr with hr | hr
  · exact q r hr
  · exact q' r hr
theorem enter1_grows (m : Mo) (st : List Part) (x : Part) : Grows m (p.enter1 (m, st) x).1 := by
  unfold Pl.enter1
  split
  · exact ⟨_, rfl, fun r hr => by rw [List.mem_singleton.mp hr]; simp [quiet]⟩
  · exact .refl m
theorem enters_grows : ∀ (xs : List Part) (m : Mo) (st : List Part), Grows m (xs.foldl p.enter1 (m, st)).1
  | [], m, st => .refl m
  | x :: xs, m, st => (enter1_grows m st x).trans (enters_grows xs _ (p.enter1 (m, st) x).2)
theorem begin1_grows (m : Mo) (k : Nat) : Grows m (p.begin1 m k) := by
  unfold Pl.begin1
  split
  · split
    · refine ⟨_, rfl, fun r hr => ?_⟩
      unfold Pl.begin at hr
      dsimp only at hr
      split at hr
      · simp at hr; rcases hr with rfl | rfl <;> simp [quiet]
      · simp at hr; rw [hr]; simp [quiet]
    · exact .refl m
  · exact .refl m
theorem out1_grows (m : Mo) (k : Nat) : Grows m (p.out1 m k) := by
  unfold Pl.out1
  split
  · split
    · split
      · exact ⟨_, rfl, fun r hr => by rw [List.mem_singleton.mp hr]; simp [quiet]⟩
      · split
        · exact ⟨_, rfl, fun r hr => by rw [List.mem_singleton.mp hr]; simp [quiet]⟩
        · exact .refl m
    · exact .refl m
  · exact .refl m
theorem begins_grows (m : Mo) : ∀ i, Grows m ((List.range i).foldl p.begin1 m)
  | 0 => .refl m
  | i + 1 => by rw [range_fold]; exact (begins_grows m i).trans (begin1_grows _ _)
theorem outs_grows (m : Mo) : ∀ i, Grows m (p.outs i m)
  | 0 => .refl m
  | i + 1 => by unfold Pl.outs; rw [range_fold]; exact (outs_grows m i).trans (out1_grows _ _)
theorem works_rows (m : Mo) (word : Str) : ∀ i, ((List.range i).foldl (p.work1 word) m).rows = m.rows ++ (List.range i).flatMap (p.workAt m word)
  | 0 => by simp
  | i + 1 => by
    rw [range_fold, List.range_succ, List.flatMap_append, ← List.append_assoc, ← works_rows m word i]
    have e := works_at (p := p) (m := m) (word := word) (k := i) i (Nat.le_refl _)
    generalize (List.range i).foldl (p.work1 word) m = m' at *
    unfold Pl.work1 Pl.workAt
    rw [e]
    cases h : m.bays[i]? with
    | none => simp [h]
    | some b => simp [h]
theorem told_form (s : Sta) (word : Str) (tags : List Int) : ∃ A O, p.told s word tags = p.strikeRows word ++ (A ++ (p.workRows s word tags ++ O)) ∧ (∀ r ∈ A, quiet r) ∧ ∀ r ∈ O, quiet r := by
  obtain ⟨X, e1, q1⟩ := (enters_grows (s.gate ++ p.fresh s.phase tags) (p.mo0 s word tags) []).trans (begins_grows (p := p) (p.mo1 s word tags).1 p.rows.length)
  obtain ⟨O, e2, q2⟩ := outs_grows (p := p) (p.mo3 s word tags) p.rows.length
  have e3 := works_rows (p := p) (p.mo2 s word tags) word p.rows.length
  have e4 : (p.mo0 s word tags).rows = p.strikeRows word ++ (p.fresh s.phase tags).map came := by
    unfold Pl.mo0 Pl.struck Pl.strikeRows
    split <;> rfl
  refine ⟨(p.fresh s.phase tags).map came ++ X, O, ?_, fun r hr => ?_, q2⟩
  · show (p.outs p.rows.length (p.mo3 s word tags)).rows = _
    rw [e2]
    show ((List.range p.rows.length).foldl (p.work1 word) (p.mo2 s word tags)).rows ++ O = _
    rw [e3]
    show (((List.range p.rows.length).foldl p.begin1 (p.mo1 s word tags).1).rows ++ p.workRows s word tags) ++ O = _
    rw [e1, e4]
    simp
  · rcases List.mem_append.mp hr with hr | hr
    · obtain ⟨x, _, rfl⟩ := List.mem_map.mp hr
      simp [quiet, came]
    · exact q1 r hr
theorem mem_workRows {s : Sta} {word : Str} {tags : List Int} {r : Row} : r ∈ p.workRows s word tags ↔ ∃ k b, k < p.rows.length ∧ (p.mo2 s word tags).bays[k]? = some b ∧ r ∈ (p.work k b word).2 := by
  unfold Pl.workRows Pl.workAt
  rw [List.mem_flatMap]
  constructor
  · rintro ⟨k, hk, hr⟩
    split at hr
    · rename_i b hb; exact ⟨k, b, by simpa using hk, hb, hr⟩
    · cases hr
  · rintro ⟨k, b, hk, hb, hr⟩
    exact ⟨k, by simpa using hk, by rw [hb]; exact hr⟩
/-- what a bay's work tells -/
theorem work_row {k : Nat} {b : Bay} {word : Str} {r : Row} (h : r ∈ (p.work k b word).2) : ¬ 0 < b.broken ∧ ¬ 0 < b.busy ∧ ∃ x, b.hold = some (x, 1) ∧ r = ⟨if word = bang (p.row k).name then Str.ofString "spoiled" else Str.ofString "finished", some x, some k, x.step⟩ := by
  unfold Pl.work at h
  split at h
  · simp at h
  split at h
  · simp at h
  rename_i h1 h2
  refine ⟨h1, h2, ?_⟩
  split at h
  · simp at h
  · rename_i x left e
    split at h
    · dsimp only at h
      split at h
      · rename_i hl
        subst hl
        refine ⟨x, e, ?_⟩
        unfold bang
        split at h
        · rename_i c; simp at h; rw [if_pos c]; exact h
        · rename_i c; simp at h; rw [if_neg c]; exact h
      · simp at h
    · simp at h
theorem work_row' {k : Nat} {b : Bay} {word : Str} {x : Part} (h1 : ¬ 0 < b.broken) (h2 : ¬ 0 < b.busy) (h : b.hold = some (x, 1)) : (⟨if word = bang (p.row k).name then Str.ofString "spoiled" else Str.ofString "finished", some x, some k, x.step⟩ : Row) ∈ (p.work k b word).2 := by
  unfold Pl.work bang
  rw [if_neg h1, if_neg h2, h]
  simp only
  rw [if_pos (by omega)]
  simp only [if_true]
  split <;> simp
/-! ### names and strikes -/
theorem Nm.noBang {x : Str} (h : Nm x) : 33 ∉ cs x := fun z => by have := h.ltr 33 z; omega
theorem dash_cs : cs dash = [45] := by decide +kernel
theorem bang_cs (x : Str) : cs (bang x) = cs x ++ [33] := by
  unfold bang
  rw [cs_app]
  congr 1
theorem bang_inj {x y : Str} (h : bang x = bang y) : x = y := by
  have := congrArg cs h
  rw [bang_cs, bang_cs] at this
  exact cs_ext (List.append_cancel_right this)
theorem bang_dash {x : Str} (hx : Nm x) : bang x ≠ dash := fun e => by
  have := congrArg cs e
  rw [bang_cs, dash_cs] at this
  have e2 := congrArg List.length this
  rw [List.length_append, List.length_singleton, List.length_singleton] at e2
  have := hx.pos
  rw [cs_len] at this
  omega
theorem names_nm (hp : PlOk p) {x : Str} (h : x ∈ p.names) : Nm x := by
  obtain ⟨y, hy, rfl⟩ := List.mem_map.mp h
  exact (hp.row y hy).2
theorem dash_out (hp : PlOk p) : dash ∉ p.names := fun z => by
  have := (names_nm hp z).ltr 45 (by rw [dash_cs]; simp)
  omega
theorem bang_out (hp : PlOk p) (x : Str) : bang x ∉ p.names := fun z => (names_nm hp z).noBang (by rw [bang_cs]; simp)
theorem row_name {k : Nat} (hk : k < p.rows.length) : (p.row k).name ∈ p.names := List.mem_map_of_mem (List.mem_of_getElem? (Pl.row_at hk))
theorem name_inj (hp : PlOk p) {i j : Nat} (hi : i < p.rows.length) (hj : j < p.rows.length) (e : (p.row i).name = (p.row j).name) : i = j := by
  have hi' : (p.rows.map Stn.name)[i]? = some (p.row i).name := by rw [List.getElem?_map, Pl.row_at hi]; rfl
  have hj' : (p.rows.map Stn.name)[j]? = some (p.row i).name := by rw [List.getElem?_map, Pl.row_at hj, e]; rfl
  exact Decidable.byContradiction fun n => nodup_ne hp.nd hi' hj' n rfl
theorem name_idx (hp : PlOk p) {k : Nat} (hk : k < p.rows.length) : p.names.idxOf (p.row k).name = k := by
  have h1 := row_name hk
  have h2 := idx_lt h1
  refine name_inj hp h2 hk ?_
  have := List.getElem_idxOf (List.idxOf_lt_length_of_mem h1)
  have e : (p.names)[p.names.idxOf (p.row k).name]? = some (p.row k).name := by rw [List.getElem?_eq_getElem (List.idxOf_lt_length_of_mem h1), this]
  unfold Pl.names at e
  rw [List.getElem?_map, Pl.row_at (by unfold Pl.names at h2; exact h2)] at e
  exact Option.some.inj e
theorem mo2_word {s : Sta} {word : Str} {tags : List Int} (h1 : word ∉ p.names) (h2 : dash ∉ p.names) : p.mo2 s word tags = p.mo2 s dash tags := by
  unfold Pl.mo2 Pl.mo1 Pl.mo0 Pl.struck
  rw [if_neg h1, if_neg h2]
/-- the strikes that are open: nothing, a station that is not broken, a step that may be spoiled -/
inductive IsOpen (p : Pl) (s : Sta) : Str → Prop
  | no : IsOpen p s dash
  | brk (k : Nat) : k < p.rows.length → IsOpen p s (p.row k).name
  | spl (k : Nat) (b : Bay) (x : Part) : k < p.rows.length → (p.mo2 s dash []).bays[k]? = some b → ¬ 0 < b.broken → ¬ 0 < b.busy → b.hold = some (x, 1) → (p.now x).back ≠ none → IsOpen p s (bang (p.row k).name)
theorem open_is (hp : PlOk p) {s : Sta} {gb qb : Nat} (hs : StaOk p s gb qb) {word : Str} (h : word ∈ p.open s) : IsOpen p s word := by
  unfold Pl.open at h
  split at h
  · rw [List.mem_singleton.mp h]; exact .no
  · rcases List.mem_cons.mp h with h | h
    · rw [h]; exact .no
    · obtain ⟨k, hk, h⟩ := List.mem_flatMap.mp h
      have hk : k < p.rows.length := by simpa using hk
      unfold Pl.openAt at h
      rcases List.mem_append.mp h with h | h
      · split at h
        · rw [List.mem_singleton.mp h]; exact .brk k hk
        · cases h
      · obtain ⟨r, hr, rfl⟩ := List.mem_map.mp h
        obtain ⟨hr, hsp⟩ := List.mem_filter.mp hr
        unfold Pl.spoils at hsp
        rw [Bool.and_eq_true, Bool.and_eq_true] at hsp
        obtain ⟨c1, c2, c3⟩ := hsp
        have c1 := of_decide_eq_true c1
        have c2 := of_decide_eq_true c2
        obtain ⟨A, O, e, qA, qO⟩ := told_form (p := p) s dash []
        have notq : ¬ quiet r := by unfold quiet; rw [c1]; decide +kernel
        have hw : r ∈ p.workRows s dash [] := by
          rw [show p.told s (Str.ofString "-") [] = p.told s dash [] from rfl, e] at hr
          rcases List.mem_append.mp hr with hr | hr
          · unfold Pl.strikeRows at hr
            rw [if_neg (dash_out hp)] at hr
            cases hr
          · rcases List.mem_append.mp hr with hr | hr
            · exact absurd (qA r hr) notq
            · rcases List.mem_append.mp hr with hr | hr
              · exact hr
              · exact absurd (qO r hr) notq
        obtain ⟨j, b, hj, hb, hr⟩ := mem_workRows.mp hw
        obtain ⟨n1, n2, x, hx, er⟩ := work_row hr
        rw [er] at c2 c3
        simp only [Option.some.injEq] at c2
        subst c2
        refine .spl j b x hj hb n1 n2 hx ?_
        have o := mo2_ok hp hs (word := dash) (tags := [])
        have ho := (o.hold b (List.mem_of_getElem? hb)).1
        rw [hx] at ho
        simp only [Int.toNat_natCast, Bool.and_eq_true] at c3
        rw [Pl.way_at (ho.2.2.1 (by omega))] at c3
        have := c3.2
        intro z
        rw [show (some (p.now x)).bind Stp1.back = (p.now x).back from rfl, z] at this
        cases this
theorem er_bay {m : Mo} {k : Nat} {b : Bay} (h : m.bays[k]? = some b) : m.er.bays[k]? = some b.er := by unfold Mo.er; simp [h]
theorem back_of (hp : PlOk p) {s : Sta} {word : Str} {tags : List Int} (h : IsOpen p s.er word) : ∀ k b, (p.mo2 s word tags).bays[k]? = some b → k < p.rows.length → BackOk p k b word := by
  intro k b hb hk n1 n2 x hx ew
  have ew : word = bang (p.row k).name := ew
  have nmk := names_nm hp (row_name hk)
  cases h with
  | no => exact absurd ew.symm (bang_dash nmk)
  | brk j hj => exact absurd (ew ▸ row_name hj) (bang_out hp _)
  | spl j b' x' hj hb' n1' n2' hx' bk =>
    have := name_inj hp hj hk (bang_inj ew)
    subst this
    have h1 := er_bay hb
    rw [mo2_er, mo2_word (bang_out hp _) (dash_out hp), hb'] at h1
    have h1 := Option.some.inj h1
    rw [h1] at hx'
    have e : b.er.hold = b.hold.map fun q => (q.1.er, q.2) := rfl
    rw [e, hx] at hx'
    simp only [Option.map_some, Option.some.injEq, Prod.mk.injEq] at hx'
    rw [← hx'.1] at bk
    exact bk
end
end MP

/-! text SP13 -/
set_option Elab.async false
set_option linter.all false
set_option maxRecDepth 100000
set_option maxHeartbeats 4000000
namespace MP
open PySem PySem.Spec PyProof.Rows
open L2 hiding St
/-! ### a course -/
def Pl.runs (p : Pl) (said : List Str) : Sta := said.foldl (fun s w => p.next s w []) p.start
structure CourseOk (p : Pl) (said : List Str) : Prop where
  len : said.length ≤ 40
  open_ : ∀ (i : Nat) w, said[i]? = some w → IsOpen p (p.runs (said.take i)) w
section
variable {p : Pl} {h : Hs}
theorem runs_snoc (said : List Str) (w : Str) : p.runs (said ++ [w]) = p.next (p.runs said) w [] := by unfold Pl.runs; rw [List.foldl_append]; rfl
theorem runs_ok (hp : PlOk p) : ∀ (n : Nat) (said : List Str), said.length = n → n ≤ 40 → StaOk p (p.runs said) (100 * n) (5000 * n) := by
  intro n
  induction n with
  | zero =>
    intro said h _
    rw [List.length_eq_zero_iff.mp h]
    exact start_sta
  | succ n ih =>
    intro said h hn
    have hne : said ≠ [] := by intro e; subst e; simp at h
    rw [← List.dropLast_concat_getLast hne, runs_snoc]
    have := nextS_ok hp (ih said.dropLast (by simp; omega) (by omega)) (word := said.getLast hne) (tags := [])
    exact ⟨this.bl, this.ql, this.hold, fun q hq => ⟨(this.part q hq).1, Nat.le_trans (this.part q hq).2 (by omega)⟩, this.gate, Nat.le_trans this.glen (by omega), Nat.le_trans this.slen (by omega)⟩
theorem start_er : p.start.er = p.start := by
  unfold Pl.start Sta.er
  simp [Function.comp_def, bay0, Bay.er]
theorem runs_er (said : List Str) : (p.runs said).er = p.runs said := by
  have key : ∀ n (said : List Str), said.length = n → (p.runs said).er = p.runs said := by
    intro n
    induction n with
    | zero => intro said h; rw [List.length_eq_zero_iff.mp h]; exact start_er
    | succ n ih =>
      intro said h
      have hne : said ≠ [] := by intro e; subst e; simp at h
      rw [← List.dropLast_concat_getLast hne, runs_snoc, next_er, ih said.dropLast (by simp; omega)]
  exact key _ _ rfl
theorem dash_back (hp : PlOk p) {s : Sta} {tags : List Int} : ∀ k b, (p.mo2 s dash tags).bays[k]? = some b → k < p.rows.length → BackOk p k b dash := back_of hp .no
theorem mo2_lt (hp : PlOk p) {s : Sta} {word : Str} {tags : List Int} {gb qb : Nat} (hs : StaOk p s gb qb) {k : Nat} {b : Bay} (h : (p.mo2 s word tags).bays[k]? = some b) : k < p.rows.length := by
  have := (List.getElem?_eq_some_iff.mp h).1
  rwa [(mo2_ok hp hs).bl] at this
theorem walk_ok {r : Nat} {many : Int} {Q : QE} (hp : PlOk p) (w : Rw r h) (m0 : 0 ≤ many) (m1 : many ≤ 40)
    (q : ∀ (said : List Str) S h', Gr r h h' → CourseOk p said → (said.length : Int) = many → Ls h' S (((List.range (said.length + 1)).map fun i => p.runs (said.take i)).map Sta.d) → Q (.tup [.tup (said.map D.str), .loc S]) h') : wF F_law_walk [.loc r, p.d, .int many] h Q := by
  unfold F_law_walk
  refine wF_runK ?_
  unfold S_law_walk
  simp
  refine start_ok hp fun h1 f1 => ?_
  have hr := w.lt
  have w1 := w.keep f1
  have e1 := f1.len
  have f2 : Fm [] h1 (h1 ++ [.lst [p.start.d], .lst []]) := (Fm.refl _ _).app _
  have LS : Ls (h1 ++ [.lst [p.start.d], .lst []]) h1.length [p.start.d] := by unfold Ls; simp
  have LT : Ls (h1 ++ [.lst [p.start.d], .lst []]) (h1.length + 1) [] := by unfold Ls; simp
  have G2 : Gr r h (h1 ++ [.lst [p.start.d], .lst []]) := ⟨f1.of0.trans f2.of0, w1.keep f2⟩
  rw [show h1 ++ [AO.lst [p.start.d], AO.lst [], AO.lst [D.int 1, D.int 2, D.int 2, D.int 6]] = (h1 ++ [AO.lst [p.start.d], AO.lst []]) ++ [AO.lst ([1, 2, 2, 6].map D.int)] by simp, show h1.length + 2 = (h1 ++ [AO.lst [p.start.d], AO.lst []]).length by simp]
  generalize h1 ++ [AO.lst [p.start.d], AO.lst []] = h2 at *
  obtain ⟨S, eS⟩ : ∃ S, S = h1.length := ⟨_, rfl⟩
  obtain ⟨T, eT⟩ : ∃ T, T = h1.length + 1 := ⟨_, rfl⟩
  rw [← eT] at LT ⊢
  rw [← eS] at LS ⊢
  refine pickN_ok [1, 2, 2, 6] 1 6 G2.rw (by decide) (by decide) (by decide) fun often h3 _ o1 o6 g3 => ?_
  refine ⟨by omega, ?_⟩
  have LS3 := LS.keep g3.fm (by simp; omega)
  have LT3 := LT.keep g3.fm (by simp; omega)
  have G3 := G2.trans g3
  obtain ⟨J, hJ⟩ : ∃ J : Nat → Rho → Hs → Prop, ∀ i ρ hx, J i ρ hx ↔ ∃ o4 o7 o8, ∃ said : List Str, ρ = [some (.loc r), some p.d, some (.int many), some (.int often), o4, some (.loc S), some (.loc T), o7, o8] ∧ Gr r h hx ∧
      Ls hx S (((List.range (said.length + 1)).map fun i => p.runs (said.take i)).map Sta.d) ∧ Ls hx T (said.map D.str) ∧ said.length = i ∧ CourseOk p said := ⟨_, fun _ _ _ => Iff.rfl⟩
  refine wFor_inv J ((hJ _ _ _).mpr ⟨none, none, none, [], rfl, G3, LS3, LT3, rfl, ⟨by simp, by simp⟩⟩) (fun i x ρ hx hi Ji => ?_) (fun ρ hx Ji => ?_)
  · obtain ⟨o4, o7, o8, said, e, G, Lx, Tx, hl, C⟩ := (hJ _ _ _).mp Ji
    subst e
    obtain ⟨hi1, rfl⟩ := rangeD_at hi
    have hi2 : i < 40 := by omega
    have so := runs_ok hp i said hl (by omega)
    -- the last state
    have elast : ((List.range (said.length + 1)).map fun i => p.runs (said.take i)) = ((List.range said.length).map fun i => p.runs (said.take i)) ++ [p.runs said] := by rw [List.range_succ, List.map_append]; simp
    rw [elast] at Lx
    generalize hpre : ((List.range said.length).map fun i => p.runs (said.take i)) = pre at *
    have plen : pre.length = i := by rw [← hpre]; simp [hl]
    have gl : ∀ hy, Ls hy S ((pre ++ [p.runs said]).map Sta.d) → ixO (.loc S) (.int (-1)) hy = some ((p.runs said).d, hy) := by
      intro hy L
      simp [L.i]
    have next : ∀ (wd : Str) (hy : Hs) o4 o7, Gr r h hy → Ls hy S ((pre ++ [p.runs said]).map Sta.d) → Ls hy T (said.map D.str) → IsOpen p (p.runs said) wd →
        wS (sSeq (sExpr (mMeth isLst appendM (mVar 6) (aCons (mVar 8) aNil))) (sSeq (sExpr (mMeth isLst appendM (mVar 5) (aCons (mOp2 ixO (mCallF 4 F_law_moment (aCons (mVar 1) (aCons (mOp2 ixO (mVar 5) (mOp1 negO (mC (.int 1)))) (aCons (mVar 8) (aCons (mTup aNil) aNil))))) (mC (.int 0))) aNil))) sNext))
          [some (.loc r), some p.d, some (.int many), some (.int often), o4, some (.loc S), some (.loc T), o7, some (.str wd)] hy (loopK (J (i + 1)) (seqK (sSeq (sRet (mTup (aCons (mCallN tupleN (aCons (mVar 6) aNil)) (aCons (mVar 5) aNil)))) sNext) (retK Q))) := by
      intro wd hy o4 o7 Gy Ly Ty hop
      have tl : said.length < 16777216 := by omega
      have Sr : S ≠ r := by omega
      have Tr : T ≠ r := by omega
      have ST : S ≠ T := by omega
      have Ly1 := Ly.oth (m := T) (o := .lst (said.map D.str ++ [.str wd])) (Ne.symm ST)
      have Ty1 := Ty.set (said.map D.str ++ [.str wd])
      have Gy1 := Gy.set w (.lst (said.map D.str ++ [.str wd])) (n := T) (by omega)
      simp [Ty.l, Ty.lt, tl]
      generalize hy.set T (.lst (said.map D.str ++ [.str wd])) = hz at *
      have gl1 := gl hz Ly1
      refine ⟨isLst_of Ly1, ?_⟩
      have Li := Ly1.i
      simp at Li
      simp [Li]
      refine moment_ok (tags := []) hp so (.inl rfl) (fun k b hb => back_of hp (by rw [runs_er]; exact hop) k b hb (mo2_lt hp so hb)) (by omega) (by omega) fun R h5 f5 _ _ => ?_
      have Ly5 := Ly1.keep0 f5
      have Ty5 := Ty1.keep0 f5
      have pl : pre.length + 1 < 16777216 := by omega
      have Ll := Ly5.l
      simp at Ll
      simp [Ll, pl]
      refine (hJ _ _ _).mpr ⟨_, _, _, said ++ [wd], rfl, (Gy1.keep f5).set w _ (by omega), ?_, by simpa using Ty5.oth (m := S) ST, by simp [hl], ⟨by simp; omega, fun j w' hj => ?_⟩⟩
      · have e3 : ((List.range ((said ++ [wd]).length + 1)).map fun i => p.runs ((said ++ [wd]).take i)) = pre ++ [p.runs said] ++ [p.next (p.runs said) wd []] := by
          rw [List.range_succ, List.map_append, List.length_append, List.length_singleton, ← elast]
          congr 1
          · refine List.map_congr_left fun j hj => ?_
            rw [List.take_append_of_le_length (by simp at hj; omega)]
          · rw [List.map_singleton, show (said ++ [wd]).take (said.length + 1) = said ++ [wd] from List.take_of_length_le (by simp), runs_snoc]
        rw [e3]
        simpa using Ly5.set (pre.map Sta.d ++ [(p.runs said).d, (p.next (p.runs said) wd []).d])
      · by_cases hjl : j < said.length
        · rw [List.getElem?_append_left hjl] at hj
          rw [List.take_append_of_le_length (by omega)]
          exact C.open_ j w' hj
        · have hl2 := (List.getElem?_eq_some_iff.mp hj).1
          have : j = said.length := by simp at hl2; omega
          subst this
          simp at hj
          subst hj
          simpa using hop
    have Li := Lx.i
    simp at Li
    simp [Li]
    refine open_ok hp so (by omega) (by omega) (fun k b hb => dash_back hp k b hb (mo2_lt hp so hb)) fun f h4 f4 ff L4 ol => ?_
    have Sr : S ≠ r := by omega
    have Tr : T ≠ r := by omega
    have Lx4 := Lx.keep0 f4
    have Tx4 := Tx.keep0 f4
    refine taken_ok (G.keep f4).rw (by omega) (by omega) fun v h5 v0 v1 g5 => ?_
    have Lx5 := Lx4.keep g5.fm (by simpa using Sr)
    have Tx5 := Tx4.keep g5.fm (by simpa using Tr)
    have L5 := L4.keep g5.fm (by have := G.rw.lt; simp; omega)
    simp
    split
    · refine pick_ok g5.rw L5.i (by unfold Pl.open; split <;> simp) ?_ (fun d h6 hd g6 => ?_) (by have := G.rw.lt; omega)
      · rw [List.length_map]; omega
      · obtain ⟨wd, hwd, rfl⟩ := List.mem_map.mp hd
        simpa using next wd h6 _ _ (((G.keep f4).trans g5).trans g6) (Lx5.keep g6.fm (by simpa using Sr)) (Tx5.keep g6.fm (by simpa using Tr)) (open_is hp so hwd)
    · simpa using next dash h5 _ _ ((G.keep f4).trans g5) Lx5 Tx5 .no
  · obtain ⟨o4, o7, o8, said, e, G, Lx, Tx, hl, C⟩ := (hJ _ _ _).mp Ji
    subst e
    rw [rangeD_len] at hl
    refine ⟨trivial, ?_⟩
    simp [Tx.i]
    exact q said S hx G C (by omega) Lx
end
end MP

/-! text SP14 -/
set_option Elab.async false
set_option linter.all false
set_option maxRecDepth 100000
set_option maxHeartbeats 4000000
namespace MP
open PySem PySem.Spec PyProof.Rows
open L2 hiding St
/-! ### tags -/
/-- all parts' tags -/
structure MoT (T : Option Int → Prop) (m : Mo) : Prop where
  bay : ∀ b ∈ m.bays, ∀ x k, b.hold = some (x, k) → T x.tag
  que : ∀ q ∈ m.queues, ∀ x ∈ q, T x.tag
  row : ∀ r ∈ m.rows, ∀ x, r.part = some x → T x.tag
structure StaT (T : Option Int → Prop) (s : Sta) : Prop where
  bay : ∀ b ∈ s.bays, ∀ x k, b.hold = some (x, k) → T x.tag
  que : ∀ q ∈ s.queues, ∀ x ∈ q, T x.tag
  gate : ∀ x ∈ s.gate, T x.tag
section
variable {p : Pl} {T : Option Int → Prop}
theorem MoT.push {m : Mo} {k : Nat} {x : Part} (o : MoT T m) (hx : T x.tag) : MoT T (m.push k x) where
  bay := o.bay
  que := fun q hq => by
    rcases mem_modify hq with hq | ⟨q', hq', rfl⟩
    · exact o.que q hq
    · intro y hy
      rcases List.mem_append.mp hy with hy | hy
      · exact o.que q' (List.mem_of_getElem? hq') y hy
      · rw [List.mem_singleton.mp hy]; exact hx
  row := fun r hr y hy => by
    rcases List.mem_append.mp hr with hr | hr
    · exact o.row r hr y hy
    · rw [List.mem_singleton.mp hr] at hy; cases hy; exact hx
theorem MoT.free {m : Mo} {k : Nat} (o : MoT T m) : MoT T (m.free k) where
  bay := fun b hb x j e => by
    rcases mem_modify hb with hb | ⟨b', hb', rfl⟩
    · exact o.bay b hb x j e
    · cases e
  que := o.que
  row := o.row
theorem MoT.enter1 {m : Mo} {st : List Part} {x : Part} (o : MoT T m) (hx : T x.tag) : MoT T (p.enter1 (m, st) x).1 := by
  unfold Pl.enter1
  split
  · exact o.push hx
  · exact o
theorem MoT.begin1 {m : Mo} {k : Nat} (o : MoT T m) : MoT T (p.begin1 m k) := by
  unfold Pl.begin1
  split
  · rename_i b x q hb hq
    split
    · have hx := o.que _ (List.mem_of_getElem? hq)
      have hb2 : ∀ y j, (p.begin k b x).1.hold = some (y, j) → T y.tag := by
        intro y j e
        unfold Pl.begin at e
        dsimp only at e
        split at e <;> (cases e; exact hx _ List.mem_cons_self)
      have hb3 : ∀ r ∈ (p.begin k b x).2, ∀ y, r.part = some y → T y.tag := by
        intro r hr y e
        unfold Pl.begin at hr
        dsimp only at hr
        split at hr
        · simp at hr
          rcases hr with rfl | rfl <;> (cases e; exact hx _ List.mem_cons_self)
        · simp at hr
          rw [hr] at e; cases e; exact hx _ List.mem_cons_self
      exact {
        bay := fun b' hb' y j e => by
          rcases List.mem_or_eq_of_mem_set hb' with h | h
          · exact o.bay b' h y j e
          · rw [h] at e; exact hb2 y j e
        que := fun q' hq' y hy => by
          rcases List.mem_or_eq_of_mem_set hq' with h | h
          · exact o.que q' h y hy
          · rw [h] at hy; exact hx y (List.mem_cons_of_mem _ hy)
        row := fun r hr y e => by
          rcases List.mem_append.mp hr with h | h
          · exact o.row r h y e
          · exact hb3 r h y e }
    · exact o
  · exact o
theorem work_tag {k : Nat} {b : Bay} {word : Str} (hb : ∀ x j, b.hold = some (x, j) → T x.tag) : (∀ y j, (p.work k b word).1.hold = some (y, j) → T y.tag) ∧ ∀ r ∈ (p.work k b word).2, ∀ y, r.part = some y → T y.tag := by
  unfold Pl.work
  split
  · exact ⟨hb, by simp⟩
  split
  · exact ⟨hb, by simp⟩
  split
  · exact ⟨hb, by simp⟩
  · rename_i x left e
    have hx := hb x left e
    split
    · dsimp only
      split
      · split
        · exact ⟨fun y j e => by cases e; exact hx, fun r hr y e => by rw [List.mem_singleton.mp hr] at e; cases e; exact hx⟩
        · exact ⟨fun y j e => by cases e; exact hx, fun r hr y e => by rw [List.mem_singleton.mp hr] at e; cases e; exact hx⟩
      · exact ⟨fun y j e => by cases e; exact hx, by simp⟩
    · exact ⟨hb, by simp⟩
theorem MoT.work1 {m : Mo} {word : Str} {k : Nat} (o : MoT T m) : MoT T (p.work1 word m k) := by
  unfold Pl.work1
  split
  · rename_i b hb
    have w := work_tag (p := p) (k := k) (word := word) (o.bay b (List.mem_of_getElem? hb))
    exact {
      bay := fun b' hb' y j e => by
        rcases List.mem_or_eq_of_mem_set hb' with h | h
        · exact o.bay b' h y j e
        · rw [h] at e; exact w.1 y j e
      que := o.que
      row := fun r hr y e => by
        rcases List.mem_append.mp hr with h | h
        · exact o.row r h y e
        · exact w.2 r h y e }
  · exact o
theorem MoT.out1 {m : Mo} {k : Nat} (o : MoT T m) : MoT T (p.out1 m k) := by
  unfold Pl.out1
  split
  · rename_i x left e
    split
    · cases eb : m.bays[k]? with
      | none => rw [eb] at e; cases e
      | some b =>
      rw [eb] at e
      have e : b.hold = some (x, left) := e
      have hx := o.bay b (List.mem_of_getElem? eb) x left e
      split
      · exact MoT.free (m := { m with rows := _ }) ⟨o.bay, o.que, fun r hr y e => by
          rcases List.mem_append.mp hr with h | h
          · exact o.row r h y e
          · rw [List.mem_singleton.mp h] at e; cases e; exact hx⟩
      · split
        · exact (o.push hx).free
        · exact o
    · exact o
  · exact o
theorem mo4_tag {s : Sta} {word : Str} {tags : List Int} (hs : StaT T s) (hf : ∀ x ∈ p.fresh s.phase tags, T x.tag) : MoT T (p.mo4 s word tags) ∧ ∀ x ∈ (p.mo1 s word tags).2, T x.tag := by
  have o0 : MoT T (p.mo0 s word tags) := by
    have e : ∀ b ∈ (p.mo0 s word tags).bays, ∀ x k, b.hold = some (x, k) → T x.tag := by
      intro b hb x k e
      unfold Pl.mo0 Pl.struck at hb
      split at hb
      · rcases mem_modify hb with hb | ⟨b', hb', rfl⟩
        · exact hs.bay b hb x k e
        · exact hs.bay b' (List.mem_of_getElem? hb') x k e
      · exact hs.bay b hb x k e
    refine ⟨e, ?_, ?_⟩
    · unfold Pl.mo0 Pl.struck
      split <;> exact hs.que
    · intro r hr y e
      rcases List.mem_append.mp hr with h | h
      · unfold Pl.struck at h
        split at h
        · simp at h; rw [h] at e; cases e
        · simp at h
      · obtain ⟨z, hz, rfl⟩ := List.mem_map.mp h
        cases e
        exact hf _ hz
  have hin : ∀ x ∈ s.gate ++ p.fresh s.phase tags, T x.tag := fun x hx => by
    rcases List.mem_append.mp hx with h | h
    · exact hs.gate x h
    · exact hf x h
  have key : ∀ (xs : List Part) (m : Mo) (st : List Part), MoT T m → (∀ x ∈ st, T x.tag) → (∀ x ∈ xs, T x.tag) → MoT T (xs.foldl p.enter1 (m, st)).1 ∧ ∀ x ∈ (xs.foldl p.enter1 (m, st)).2, T x.tag := by
    intro xs
    induction xs with
    | nil => exact fun m st o hst _ => ⟨o, hst⟩
    | cons x xs ih =>
      intro m st o hst hxs
      refine ih (p.enter1 (m, st) x).1 (p.enter1 (m, st) x).2 (o.enter1 (hxs x List.mem_cons_self)) ?_ fun y hy => hxs y (List.mem_cons_of_mem _ hy)
      unfold Pl.enter1
      split
      · exact hst
      · intro y hy
        rcases List.mem_append.mp hy with h | h
        · exact hst y h
        · rw [List.mem_singleton.mp h]; exact hxs x List.mem_cons_self
  obtain ⟨o1, st1⟩ := key _ _ [] o0 (by simp) hin
  refine ⟨?_, st1⟩
  have o2 : ∀ i, MoT T ((List.range i).foldl p.begin1 (p.mo1 s word tags).1) := by
    intro i
    induction i with
    | zero => exact o1
    | succ i ih => rw [range_fold]; exact ih.begin1
  have o3 : ∀ i, MoT T ((List.range i).foldl (p.work1 word) (p.mo2 s word tags)) := by
    intro i
    induction i with
    | zero => exact o2 _
    | succ i ih => rw [range_fold]; exact ih.work1
  have o4 : ∀ i, MoT T (p.outs i (p.mo3 s word tags)) := by
    intro i
    induction i with
    | zero => exact o3 _
    | succ i ih => unfold Pl.outs; rw [range_fold]; exact ih.out1
  exact o4 _
theorem nextS_tag {s : Sta} {word : Str} {tags : List Int} (hs : StaT T s) (hf : ∀ x ∈ p.fresh s.phase tags, T x.tag) : StaT T (p.next s word tags) := by
  obtain ⟨o, g⟩ := mo4_tag (word := word) hs hf
  exact {
    bay := fun b hb x k e => by
      obtain ⟨b', hb', rfl⟩ := List.mem_map.mp hb
      have e : (b'.hold.map fun q => (q.1.older, q.2)) = some (x, k) := e
      cases h : b'.hold with
      | none => rw [h] at e; cases e
      | some q => rw [h] at e; cases e; exact o.bay b' hb' q.1 q.2 h
    que := fun q hq x hx => by
      obtain ⟨q', hq', rfl⟩ := List.mem_map.mp hq
      obtain ⟨x', hx', rfl⟩ := List.mem_map.mp hx
      exact o.que q' hq' x' hx'
    gate := fun x hx => by
      obtain ⟨x', hx', rfl⟩ := List.mem_map.mp hx
      exact g x' hx' }
theorem told_tag {s : Sta} {word : Str} {tags : List Int} (hs : StaT T s) (hf : ∀ x ∈ p.fresh s.phase tags, T x.tag) : ∀ r ∈ p.told s word tags, ∀ x, r.part = some x → T x.tag := (mo4_tag (word := word) hs hf).1.row
theorem start_tag : StaT T p.start where
  bay := fun b hb x k e => by
    obtain ⟨_, _, rfl⟩ := List.mem_map.mp hb
    cases e
  que := fun q hq x hx => by
    obtain ⟨_, _, rfl⟩ := List.mem_map.mp hq
    cases hx
  gate := by simp [Pl.start]
/-! ### rows' stations -/
theorem told_at (hp : PlOk p) {s : Sta} {word : Str} {tags : List Int} {gb qb : Nat} (hs : StaOk p s gb qb) : ∀ r ∈ p.told s word tags, ∀ k, r.at_ = some k → k < p.rows.length := by
  have h0 : ∀ r ∈ (p.mo0 s word tags).rows, ∀ k, r.at_ = some k → k < p.rows.length := by
    intro r hr k e
    rcases List.mem_append.mp hr with h | h
    · unfold Pl.struck at h
      split at h
      · rename_i hw
        simp at h; rw [h] at e; cases e; exact idx_lt hw
      · simp at h
    · obtain ⟨z, hz, rfl⟩ := List.mem_map.mp h
      cases e
  have hpush : ∀ (m : Mo) (k : Nat) (x : Part), k < p.rows.length → (∀ r ∈ m.rows, ∀ k, r.at_ = some k → k < p.rows.length) → ∀ r ∈ (m.push k x).rows, ∀ k, r.at_ = some k → k < p.rows.length := by
    intro m k x hk h r hr j e
    rcases List.mem_append.mp hr with h' | h'
    · exact h r h' j e
    · rw [List.mem_singleton.mp h'] at e; cases e; exact hk
  have h1 : ∀ (xs : List Part) (m : Mo) (st : List Part), (∀ x ∈ xs, PartOk p x) → (∀ r ∈ m.rows, ∀ k, r.at_ = some k → k < p.rows.length) → ∀ r ∈ (xs.foldl p.enter1 (m, st)).1.rows, ∀ k, r.at_ = some k → k < p.rows.length := by
    intro xs
    induction xs with
    | nil => exact fun m st _ h => h
    | cons x xs ih =>
      intro m st hx h
      refine ih (p.enter1 (m, st) x).1 (p.enter1 (m, st) x).2 (fun y hy => hx y (List.mem_cons_of_mem _ hy)) ?_
      unfold Pl.enter1
      split
      · exact hpush _ _ _ (goal_lt hp (hx x List.mem_cons_self)) h
      · exact h
  have h2 : ∀ i, i ≤ p.rows.length → ∀ r ∈ ((List.range i).foldl p.begin1 (p.mo1 s word tags).1).rows, ∀ k, r.at_ = some k → k < p.rows.length := by
    intro i
    induction i with
    | zero => exact fun _ => h1 _ _ _ (inside_ok' hp hs) h0
    | succ i ih =>
      intro hi
      rw [range_fold]
      intro r hr k e
      unfold Pl.begin1 at hr
      split at hr
      · split at hr
        · rcases List.mem_append.mp hr with h | h
          · exact ih (by omega) r h k e
          · unfold Pl.begin at h
            dsimp only at h
            split at h
            · simp at h
              rcases h with rfl | rfl <;> (cases e; omega)
            · simp at h; rw [h] at e; cases e; omega
        · exact ih (by omega) r hr k e
      · exact ih (by omega) r hr k e
  have h3 : ∀ i, i ≤ p.rows.length → ∀ r ∈ ((List.range i).foldl (p.work1 word) (p.mo2 s word tags)).rows, ∀ k, r.at_ = some k → k < p.rows.length := by
    intro i
    induction i with
    | zero => exact fun _ => h2 _ (Nat.le_refl _)
    | succ i ih =>
      intro hi
      rw [range_fold]
      intro r hr k e
      unfold Pl.work1 at hr
      split at hr
      · rcases List.mem_append.mp hr with h | h
        · exact ih (by omega) r h k e
        · obtain ⟨_, _, x, _, er⟩ := work_row h
          rw [er] at e; cases e; omega
      · exact ih (by omega) r hr k e
  have h4 : ∀ i, i ≤ p.rows.length → ∀ r ∈ (p.outs i (p.mo3 s word tags)).rows, ∀ k, r.at_ = some k → k < p.rows.length := by
    intro i
    induction i with
    | zero => exact fun _ => h3 _ (Nat.le_refl _)
    | succ i ih =>
      intro hi
      have o := outs_ok (mo3_ok hp hs (word := word) (tags := tags)) i
      unfold Pl.outs
      rw [range_fold]
      intro r hr k e
      have o : MoOk p ((List.range i).foldl (fun m j => p.out1 m (p.rows.length - 1 - j)) (p.mo3 s word tags)) _ _ := o
      have ih : ∀ r ∈ ((List.range i).foldl (fun m j => p.out1 m (p.rows.length - 1 - j)) (p.mo3 s word tags)).rows, ∀ k, r.at_ = some k → k < p.rows.length := ih (by omega)
      generalize (List.range i).foldl (fun m j => p.out1 m (p.rows.length - 1 - j)) (p.mo3 s word tags) = m at *
      unfold Pl.out1 at hr
      split at hr
      · rename_i x left ex
        split at hr
        · cases eb : m.bays[p.rows.length - 1 - i]? with
          | none => rw [eb] at ex; cases ex
          | some b =>
          rw [eb] at ex
          have ex : b.hold = some (x, left) := ex
          have hb := (o.hold b (List.mem_of_getElem? eb)).1
          rw [ex] at hb
          split at hr
          · rcases List.mem_append.mp hr with h | h
            · exact ih r h k e
            · rw [List.mem_singleton.mp h] at e; cases e; omega
          · rename_i hs'
            split at hr
            · exact hpush _ _ _ (goal_lt hp ⟨hb.1, by have := hb.2.2.2; omega⟩) ih r hr k e
            · exact ih r hr k e
        · exact ih r hr k e
      · exact ih r hr k e
  exact h4 _ (Nat.le_refl _)
end
end MP

/-! text SP15 -/
set_option Elab.async false
set_option linter.all false
set_option maxRecDepth 100000
set_option maxHeartbeats 4000000
namespace MP
open PySem PySem.Spec PyProof.Rows
open L2 hiding St
/-! ### a log -/
structure LRow where
  mom : Int
  word : Str
  tick : Int
  stn : Str
  num : Int
def LRow.d (r : LRow) : D := .tup [.int r.mom, .str r.word, .int r.tick, .str r.stn, .int r.num]
def Sta.inside (s : Sta) : List Part := s.gate ++ s.queues.flatten ++ s.bays.filterMap fun b => b.hold.map Prod.fst
def tagN (x : Part) : Int := x.tag.getD 0
def Pl.logRow (p : Pl) (i : Int) (r : Row) : LRow := ⟨i, r.word, (r.part.map tagN).getD 0, (r.at_.map fun k => (p.row k).name).getD ⟨#[]⟩, r.num⟩
def Pl.leadOf (p : Pl) (x : Part) : Int := ((p.orders[x.ord]?).map Order.lead).getD 0
def Pl.lates (p : Pl) (s : Sta) : List (Int × Int) := sortP ((s.inside.filter fun x => decide (x.age = p.leadOf x)).map fun x => (tagN x, x.age))
def lateRow (i : Int) (q : Int × Int) : LRow := ⟨i, "late", q.1, ⟨#[]⟩, q.2⟩
def Pl.tagsAt (p : Pl) (s : Sta) (c : Int) : List Int := (List.range (p.coming s.phase).length).map fun (k : Nat) => c + (k : Int)
structure LogS where
  st : Sta
  found : List LRow
  coming : Int
  i : Nat
def Pl.logStep (p : Pl) (l : LogS) (w : Str) : LogS :=
  ⟨p.next l.st w (p.tagsAt l.st l.coming), l.found ++ (p.told l.st w (p.tagsAt l.st l.coming)).map (p.logRow l.i) ++ (p.lates (p.next l.st w (p.tagsAt l.st l.coming))).map (lateRow l.i), l.coming + (p.coming l.st.phase).length, l.i + 1⟩
def Pl.logAll (p : Pl) (said : List Str) : LogS := said.foldl p.logStep ⟨p.start, [], 1, 0⟩
section
variable {p : Pl} {h : Hs} {Q : QE}
theorem inside_okD {s : Sta} (hb : s.bays.length ≤ 1000) (hq : s.queues.length ≤ 30) (hql : ∀ q ∈ s.queues, q.length ≤ 400000) (hg : s.gate.length ≤ 100000) (q : ∀ f h', Fm [] h h' → Ls h' f (s.inside.map Part.d) → Q (.loc f) h') : wF F_law_inside [s.d] h Q := by
  unfold F_law_inside
  refine wF_runK ?_
  unfold S_law_inside
  simp
  have f0 : Fm [] h (h ++ [.lst (s.gate.map Part.d)]) := (Fm.refl _ _).app _
  have L0 := Ls.new h (s.gate.map Part.d)
  obtain ⟨f, ef⟩ : ∃ f, f = h.length := ⟨_, rfl⟩
  rw [← ef] at L0 ⊢
  generalize h ++ [AO.lst (s.gate.map Part.d)] = h0 at *
  obtain ⟨J, hJ⟩ : ∃ J : Nat → Rho → Hs → Prop, ∀ i ρ hx, J i ρ hx ↔ ∃ o2, ρ = [some s.d, some (.loc f), o2, none] ∧ Fm [] h hx ∧ Ls hx f ((s.gate ++ (s.queues.take i).flatten).map Part.d) ∧ (s.gate ++ (s.queues.take i).flatten).length ≤ 100000 + i * 400000 := ⟨_, fun _ _ _ => Iff.rfl⟩
  refine wFor_inv J ((hJ _ _ _).mpr ⟨none, rfl, f0, by simpa using L0, by simp; omega⟩) (fun i x ρ hx hi Ji => ?_) (fun ρ hx Ji => ?_)
  · obtain ⟨o2, e, F, L, ll⟩ := (hJ _ _ _).mp Ji
    subst e
    rw [List.getElem?_map] at hi
    cases eq : s.queues[i]? with
    | none => rw [eq] at hi; cases hi
    | some qu =>
    rw [eq] at hi
    cases hi
    have hil := (List.getElem?_eq_some_iff.mp eq).1
    have et : s.gate ++ (s.queues.take (i + 1)).flatten = s.gate ++ (s.queues.take i).flatten ++ qu := by rw [List.take_add_one, eq]; simp
    have ql := hql qu (List.mem_of_getElem? eq)
    generalize s.gate ++ (s.queues.take i).flatten = pre at *
    have n1 : pre.length + qu.length ≤ 16777216 := by omega
    simp [isLst_of L, queueD, L.l, n1]
    refine (hJ _ _ _).mpr ⟨_, rfl, F.set _ (.inr (by omega)), by rw [et]; simpa using L.set (pre.map Part.d ++ qu.map Part.d), by rw [et]; simp; omega⟩
  · obtain ⟨o2, e, F, L, ll⟩ := (hJ _ _ _).mp Ji
    subst e
    rw [List.length_map, List.take_length] at L ll
    refine ⟨trivial, ?_⟩
    simp
    refine wLc_pureM (fun b : Bay => b.hold.isSome) (fun b => (partO (b.hold.map Prod.fst))) (by simp; omega) (fun _ _ => trivial) (fun b h1 hx f => ?_) (fun h1 f1 L1 => ?_)
    · cases hb : b.hold with
      | none => simp [hb]
      | some xk => obtain ⟨x, k⟩ := xk; simp [hb]
    · have e1 : ((s.bays.filter fun b => b.hold.isSome).map fun b => partO (b.hold.map Prod.fst)) = (s.bays.filterMap fun b => b.hold.map Prod.fst).map Part.d := by
        generalize s.bays = bs
        induction bs with
        | nil => rfl
        | cons b bs ih =>
          cases hb : b.hold with
          | none => simp [hb]; simpa using ih
          | some xk => simp [hb]; simpa using ih
      rw [e1] at L1
      have ll2 : (s.bays.filterMap fun b => b.hold.map Prod.fst).length ≤ 1000 := Nat.le_trans (List.length_filterMap_le _ _) hb
      have La := L.keep0 f1
      have n2 : (s.gate ++ s.queues.flatten).length + (s.bays.filterMap fun b => b.hold.map Prod.fst).length ≤ 16777216 := by
        have : (s.gate ++ s.queues.flatten).length ≤ 100000 + s.queues.length * 400000 := by simpa using ll
        omega
      have e2 : s.inside = (s.gate ++ s.queues.flatten) ++ (s.bays.filterMap fun b => b.hold.map Prod.fst) := rfl
      rw [e2] at q
      generalize (s.gate ++ s.queues.flatten) = pre at *
      generalize (s.bays.filterMap fun b => b.hold.map Prod.fst) = post at *
      simp [La.l, L1.l, n2]
      exact q _ _ ((F.trans f1).app _) (by simpa using Ls.new h1 (pre.map Part.d ++ post.map Part.d))
end
end MP

/-! text SP16 -/
set_option Elab.async false
set_option linter.all false
set_option maxRecDepth 100000
set_option maxHeartbeats 4000000
namespace MP
open PySem PySem.Spec PyProof.Rows
open L2 hiding St
/-! ### how many parts are inside -/
def sumL {α : Type} (f : α → Nat) (xs : List α) : Nat := (xs.map f).sum
theorem sumL_cons {α : Type} (f : α → Nat) (x : α) (xs : List α) : sumL f (x :: xs) = f x + sumL f xs := by unfold sumL; simp
theorem sumL_set {α : Type} (f : α → Nat) : ∀ (xs : List α) (k : Nat) (x y : α), xs[k]? = some x → sumL f (xs.set k y) + f x = sumL f xs + f y
  | [], k, x, y, h => by simp at h
  | a :: xs, 0, x, y, h => by
    simp at h; subst h
    rw [List.set_cons_zero, sumL_cons, sumL_cons]; omega
  | a :: xs, k + 1, x, y, h => by
    have := sumL_set f xs k x y (by simpa using h)
    rw [List.set_cons_succ, sumL_cons, sumL_cons]; omega
theorem sumL_modify {α : Type} (f : α → Nat) (g : α → α) (n : Nat) (hg : ∀ x, f (g x) ≤ f x + n) : ∀ (xs : List α) (k : Nat), sumL f (xs.modify k g) ≤ sumL f xs + n
  | [], k => by simp [sumL]
  | a :: xs, 0 => by
    have := hg a
    rw [List.modify_zero_cons, sumL_cons, sumL_cons]; omega
  | a :: xs, k + 1 => by
    have := sumL_modify f g n hg xs k
    rw [List.modify_succ_cons, sumL_cons, sumL_cons]; omega
theorem sumL_map {α β : Type} (f : β → Nat) (g : α → β) (xs : List α) : sumL f (xs.map g) = sumL (fun x => f (g x)) xs := by unfold sumL; rw [List.map_map]; rfl
def holdN (b : Bay) : Nat := if b.hold.isSome then 1 else 0
def Mo.cnt (m : Mo) : Nat := sumL List.length m.queues + sumL holdN m.bays
def Sta.cnt (s : Sta) : Nat := s.gate.length + sumL List.length s.queues + sumL holdN s.bays
theorem inside_cnt (s : Sta) : s.inside.length = s.cnt := by
  unfold Sta.inside Sta.cnt
  rw [List.length_append, List.length_append, List.length_flatten]
  congr 1
  generalize s.bays = bs
  induction bs with
  | nil => rfl
  | cons b bs ih =>
    rw [sumL_cons, ← ih]
    unfold holdN
    cases h : b.hold <;> simp [h]; omega
section
variable {p : Pl}
theorem push_cnt (m : Mo) (k : Nat) (x : Part) : (m.push k x).cnt ≤ m.cnt + 1 := by
  unfold Mo.cnt Mo.push
  have := sumL_modify (List.length (α := Part)) (· ++ [x]) 1 (fun q => by simp) m.queues k
  show sumL List.length (m.queues.modify k (· ++ [x])) + sumL holdN m.bays ≤ _
  omega
theorem enter1_cnt (m : Mo) (st : List Part) (x : Part) : (p.enter1 (m, st) x).1.cnt + (p.enter1 (m, st) x).2.length ≤ m.cnt + st.length + 1 := by
  unfold Pl.enter1
  split
  · have := push_cnt m (p.goal x) x
    show (m.push (p.goal x) x).cnt + st.length ≤ _
    omega
  · simp; omega
theorem enters_cnt : ∀ (xs : List Part) (m : Mo) (st : List Part), (xs.foldl p.enter1 (m, st)).1.cnt + (xs.foldl p.enter1 (m, st)).2.length ≤ m.cnt + st.length + xs.length
  | [], m, st => by simp
  | x :: xs, m, st => by
    have h1 := enter1_cnt (p := p) m st x
    have h2 := enters_cnt xs (p.enter1 (m, st) x).1 (p.enter1 (m, st) x).2
    rw [List.foldl_cons, List.length_cons]
    have h2 : (xs.foldl p.enter1 (p.enter1 (m, st) x)).1.cnt + (xs.foldl p.enter1 (p.enter1 (m, st) x)).2.length ≤ _ := h2
    omega
theorem begin1_cnt (m : Mo) (k : Nat) : (p.begin1 m k).cnt ≤ m.cnt := by
  unfold Pl.begin1
  split
  · rename_i b x q hb hq
    split
    · rename_i c
      have h1 := sumL_set (List.length (α := Part)) m.queues k (x :: q) q hq
      have h2 := sumL_set holdN m.bays k b (p.begin k b x).1 hb
      have h3 : holdN b = 0 := by unfold holdN; rw [c.2]; rfl
      have h4 : holdN (p.begin k b x).1 ≤ 1 := by unfold holdN; split <;> omega
      unfold Mo.cnt
      simp only [List.length_cons] at h1
      show sumL List.length (m.queues.set k q) + sumL holdN (m.bays.set k (p.begin k b x).1) ≤ _
      omega
    · exact Nat.le_refl _
  · exact Nat.le_refl _
theorem work_hn {k : Nat} {b : Bay} {word : Str} : holdN (p.work k b word).1 ≤ holdN b := by
  unfold Pl.work
  split
  · exact Nat.le_refl _
  split
  · exact Nat.le_refl _
  split
  · exact Nat.le_refl _
  · rename_i x left e
    have hb : holdN b = 1 := by unfold holdN; rw [e]; rfl
    have : ∀ b' : Bay, holdN b' ≤ 1 := fun b' => by unfold holdN; split <;> omega
    rw [hb]
    exact this _
theorem work1_cnt (word : Str) (m : Mo) (k : Nat) : (p.work1 word m k).cnt ≤ m.cnt := by
  unfold Pl.work1
  split
  · rename_i b hb
    have h2 := sumL_set holdN m.bays k b (p.work k b word).1 hb
    have h3 := work_hn (p := p) (k := k) (b := b) (word := word)
    unfold Mo.cnt
    show sumL List.length m.queues + sumL holdN (m.bays.set k (p.work k b word).1) ≤ _
    omega
  · exact Nat.le_refl _
theorem free_cnt {m : Mo} {k : Nat} {b : Bay} (hb : m.bays[k]? = some b) (hh : b.hold.isSome = true) : (m.free k).cnt + 1 ≤ m.cnt := by
  have h2 := sumL_set holdN m.bays k b { b with hold := none } hb
  have h3 : holdN b = 1 := by unfold holdN; rw [if_pos hh]
  have h4 : holdN { b with hold := none } = 0 := rfl
  unfold Mo.cnt Mo.free
  rw [modify_at hb]
  show sumL List.length m.queues + sumL holdN (m.bays.set k { b with hold := none }) + 1 ≤ _
  omega
theorem out1_cnt (m : Mo) (k : Nat) : (p.out1 m k).cnt ≤ m.cnt := by
  unfold Pl.out1
  split
  · rename_i x left e
    split
    · cases eb : m.bays[k]? with
      | none => rw [eb] at e; cases e
      | some b =>
      rw [eb] at e
      have e : b.hold = some (x, left) := e
      have hh : b.hold.isSome = true := by rw [e]; rfl
      split
      · have := free_cnt (m := { m with rows := m.rows ++ [⟨"done", some x, some k, x.age + 1⟩] }) eb hh
        have h2 : ({ m with rows := m.rows ++ [⟨"done", some x, some k, x.age + 1⟩] } : Mo).cnt = m.cnt := rfl
        omega
      · split
        · have := free_cnt (m := m.push (p.goal x) x) (k := k) eb hh
          have := push_cnt m (p.goal x) x
          omega
        · exact Nat.le_refl _
    · exact Nat.le_refl _
  · exact Nat.le_refl _
theorem mo4_cnt (hp : PlOk p) (s : Sta) (word : Str) (tags : List Int) : (p.mo4 s word tags).cnt + (p.mo1 s word tags).2.length ≤ s.cnt + 100 := by
  have e0 : (p.mo0 s word tags).cnt ≤ sumL List.length s.queues + sumL holdN s.bays := by
    unfold Pl.mo0 Pl.struck Mo.cnt
    split
    · have := sumL_modify holdN (fun b => { b with broken := (p.row (p.names.idxOf word)).repair }) 0 (fun b => Nat.le_refl _) s.bays (p.names.idxOf word)
      show sumL List.length s.queues + sumL holdN (s.bays.modify _ _) ≤ _
      omega
    · exact Nat.le_refl _
  have e1 := enters_cnt (p := p) (s.gate ++ p.fresh s.phase tags) (p.mo0 s word tags) []
  have e2 : ∀ i, ((List.range i).foldl p.begin1 (p.mo1 s word tags).1).cnt ≤ (p.mo1 s word tags).1.cnt := by
    intro i
    induction i with
    | zero => exact Nat.le_refl _
    | succ i ih => rw [range_fold]; exact Nat.le_trans (begin1_cnt _ _) ih
  have e3 : ∀ i, ((List.range i).foldl (p.work1 word) (p.mo2 s word tags)).cnt ≤ (p.mo2 s word tags).cnt := by
    intro i
    induction i with
    | zero => exact Nat.le_refl _
    | succ i ih => rw [range_fold]; exact Nat.le_trans (work1_cnt _ _ _) ih
  have e4 : ∀ i, (p.outs i (p.mo3 s word tags)).cnt ≤ (p.mo3 s word tags).cnt := by
    intro i
    induction i with
    | zero => exact Nat.le_refl _
    | succ i ih => unfold Pl.outs; rw [range_fold]; exact Nat.le_trans (out1_cnt _ _) ih
  have h2 := e2 p.rows.length
  have h3 := e3 p.rows.length
  have h4 := e4 p.rows.length
  have fl := coming_len p s.phase
  have ol := hp.olen
  have il : (s.gate ++ p.fresh s.phase tags).length = s.gate.length + (p.coming s.phase).length := by rw [List.length_append, fresh_len]
  have e1 : (p.mo1 s word tags).1.cnt + (p.mo1 s word tags).2.length ≤ (p.mo0 s word tags).cnt + 0 + (s.gate ++ p.fresh s.phase tags).length := e1
  have h2 : (p.mo2 s word tags).cnt ≤ (p.mo1 s word tags).1.cnt := h2
  have h3 : (p.mo3 s word tags).cnt ≤ (p.mo2 s word tags).cnt := h3
  have h4 : (p.mo4 s word tags).cnt ≤ (p.mo3 s word tags).cnt := h4
  unfold Sta.cnt
  omega
theorem next_cnt (hp : PlOk p) (s : Sta) (word : Str) (tags : List Int) : (p.next s word tags).cnt ≤ s.cnt + 100 := by
  have h := mo4_cnt hp s word tags
  have e : (p.next s word tags).cnt = (p.mo1 s word tags).2.length + sumL List.length (p.mo4 s word tags).queues + sumL holdN (p.mo4 s word tags).bays := by
    unfold Pl.next Pl.closed Sta.cnt
    simp only [sumL_map, List.length_map]
    congr 1
    congr 1
    funext b
    unfold holdN Bay.older
    cases b.hold <;> rfl
  rw [e]
  unfold Mo.cnt at h
  omega
end
end MP

/-! text SP17 -/
set_option Elab.async false
set_option linter.all false
set_option maxRecDepth 100000
set_option maxHeartbeats 4000000
namespace MP
open PySem PySem.Spec PyProof.Rows
open L2 hiding St
section
variable {p : Pl} {h : Hs} {Q : QE}
def Tagged (o : Option Int) : Prop := ∃ n, o = some n ∧ 1 ≤ n
structure LogOk (p : Pl) (said : List Str) (l : LogS) : Prop where
  st : StaOk p l.st (100 * said.length) (5000 * said.length)
  er : l.st.er = p.runs said
  tag : StaT Tagged l.st
  one : 1 ≤ l.coming
  i : l.i = said.length
  cnt : l.st.cnt ≤ 100 * said.length
  len : l.found.length ≤ said.length * 10000
theorem logAll_snoc (said : List Str) (w : Str) : p.logAll (said ++ [w]) = p.logStep (p.logAll said) w := by unfold Pl.logAll; rw [List.foldl_append]; rfl
theorem tagsAt_len (s : Sta) (c : Int) : (p.tagsAt s c).length = (p.coming s.phase).length := by unfold Pl.tagsAt; simp
theorem fresh_tag {s : Sta} {c : Int} (hc : 1 ≤ c) : ∀ x ∈ p.fresh s.phase (p.tagsAt s c), Tagged x.tag := by
  intro x hx
  obtain ⟨i, hi, e⟩ := List.mem_mapIdx.mp hx
  subst e
  have : (p.tagsAt s c)[i]? = some (c + (i : Int)) := by
    unfold Pl.tagsAt
    rw [List.getElem?_map, List.getElem?_range hi]; rfl
  exact ⟨c + i, this, by omega⟩
theorem start_cnt : p.start.cnt = 0 := by
  have z : ∀ (α : Type) (f : α → Nat) (xs : List α), (∀ x, f x = 0) → sumL f xs = 0 := by
    intro α f xs hf
    induction xs with
    | nil => rfl
    | cons x xs ih => rw [sumL_cons, ih, hf]
  unfold Pl.start Sta.cnt
  rw [sumL_map, sumL_map]
  have a := z Stn (fun _ => ([] : List Part).length) p.rows (fun _ => rfl)
  have b := z Stn (fun _ => holdN bay0) p.rows (fun _ => rfl)
  show 0 + sumL (fun _ => ([] : List Part).length) p.rows + sumL (fun _ => holdN bay0) p.rows = 0
  rw [a, b]
theorem sortP_len (xs : List (Int × Int)) : (sortP xs).length = xs.length := (List.mergeSort_perm xs leP).length_eq
theorem told_len (hp : PlOk p) {s : Sta} {word : Str} {tags : List Int} {gb qb : Nat} (hs : StaOk p s gb qb) : (p.told s word tags).length ≤ gb + 501 := (mo4_ok hp hs).rows
theorem lates_len (s : Sta) : (p.lates s).length ≤ s.cnt := by
  unfold Pl.lates
  rw [sortP_len, List.length_map, ← inside_cnt]
  exact List.length_filter_le _ _
theorem logOk_step (hp : PlOk p) {said : List Str} {w : Str} {l : LogS} (o : LogOk p said l) (hn : said.length < 40) : LogOk p (said ++ [w]) (p.logStep l w) where
  st := by
    have := nextS_ok hp o.st (word := w) (tags := p.tagsAt l.st l.coming)
    rw [List.length_append, List.length_singleton]
    exact ⟨this.bl, this.ql, this.hold, fun q hq => ⟨(this.part q hq).1, Nat.le_trans (this.part q hq).2 (by omega)⟩, this.gate, Nat.le_trans this.glen (by omega), Nat.le_trans this.slen (by omega)⟩
  er := by
    show (p.next l.st w _).er = _
    rw [next_er, o.er, runs_snoc]
  tag := nextS_tag o.tag (fresh_tag o.one)
  one := by
    have := o.one
    show 1 ≤ l.coming + ((p.coming l.st.phase).length : Int)
    omega
  i := by show l.i + 1 = _; rw [o.i]; simp
  cnt := by
    have h := next_cnt hp l.st w (p.tagsAt l.st l.coming)
    have h2 := o.cnt
    show (p.next l.st w _).cnt ≤ _
    rw [List.length_append, List.length_singleton]
    omega
  len := by
    have h1 := told_len hp o.st (word := w) (tags := p.tagsAt l.st l.coming)
    have h2 := lates_len (p := p) (p.next l.st w (p.tagsAt l.st l.coming))
    have h := next_cnt hp l.st w (p.tagsAt l.st l.coming)
    have h3 := o.cnt
    have h4 := o.len
    show (l.found ++ _ ++ _).length ≤ _
    simp only [List.length_append, List.length_map, List.length_singleton]
    omega
theorem logOk_all (hp : PlOk p) : ∀ (n : Nat) (said : List Str), said.length = n → n ≤ 40 → LogOk p said (p.logAll said) := by
  intro n
  induction n with
  | zero =>
    intro said h _
    rw [List.length_eq_zero_iff.mp h]
    exact ⟨start_sta, start_er, start_tag, by simp [Pl.logAll], rfl, by rw [show (p.logAll []).st = p.start from rfl, start_cnt]; omega, by simp [Pl.logAll]⟩
  | succ n ih =>
    intro said h hn
    have hne : said ≠ [] := by intro e; subst e; simp at h
    have hl : said.dropLast.length = n := by simp; omega
    rw [← List.dropLast_concat_getLast hne, logAll_snoc]
    exact logOk_step hp (ih _ hl (by omega)) (by omega)
theorem coming_count (p : Pl) (phase : Int) : ((p.orders.filter fun o => decide (o.phase = phase)).length) = (p.coming phase).length := by
  have e : p.orders = (List.range p.orders.length).map fun k => (p.orders[k]?).getD ⟨0, ⟨#[]⟩, 0⟩ := by
    refine List.ext_getElem? fun i => ?_
    rw [List.getElem?_map]
    by_cases hi : i < p.orders.length
    · rw [List.getElem?_range hi, List.getElem?_eq_getElem hi]
      simp [List.getElem?_eq_getElem hi]
    · rw [List.getElem?_eq_none (by omega), List.getElem?_eq_none (by simp; omega)]; rfl
  unfold Pl.coming
  conv => lhs; rw [e]
  rw [List.filter_map, List.length_map]
  congr 1
  refine List.filter_congr fun k hk => ?_
  cases h : p.orders[k]? <;> simp [h]
/-- one moment's rows go into the log -/
theorem log_rows {course : D} {i f R : Nat} {st : Sta} {cm mn : D} {found : List LRow} {rows : List Row} {o7 o9 o10 o11 o12 o13 o14 : Option D} {Q : QS} (hp : PlOk p) (htag : ∀ r ∈ rows, ∀ x, r.part = some x → Tagged x.tag) (hat : ∀ r ∈ rows, ∀ k, r.at_ = some k → k < p.rows.length)
    (Lf : Ls h f (found.map LRow.d)) (LR : Ls h R (rows.map Row.d)) (fR : f ≠ R) (hl : found.length + rows.length ≤ 10000000)
    (q : ∀ h' o9 o10 o11 o12, Fm [f] h h' → Ls h' f ((found ++ rows.map (p.logRow i)).map LRow.d) → Q .nx [some p.d, some course, some (.int i), some st.d, some (.loc f), some cm, some mn, o7, some (.loc R), o9, o10, o11, o12, o13, o14] h') :
    wFor (some (R, rows.map Row.d)) (gTupM 4 (gsCons (gVar 9) (gsCons (gVar 10) (gsCons (gVar 11) (gsCons (gVar 12) gsNil))))) (sSeq (sExpr (mMeth isLst appendM (mVar 4) (aCons (mTup (aCons (mVar 2) (aCons (mVar 9) (aCons (mIf (bBool (mOp2 isO (mVar 10) (mC .non))) (mC (.int 0)) (mOp2 ixO (mVar 10) (mC (.int 4)))) (aCons (mIf (bBool (mOp2 isO (mVar 11) (mC .non))) (mC (.str "")) (mOp2 ixO (mOp2 ixO (mOp2 ixO (mVar 0) (mC (.int 0))) (mVar 11)) (mC (.int 0)))) (aCons (mVar 12) aNil)))))) aNil))) sNext) (rows.map Row.d) [some p.d, some course, some (.int i), some st.d, some (.loc f), some cm, some mn, o7, some (.loc R), o9, o10, o11, o12, o13, o14] h Q := by
  obtain ⟨J, hJ⟩ : ∃ J : Nat → Rho → Hs → Prop, ∀ j ρ hx, J j ρ hx ↔ ∃ o9 o10 o11 o12, ρ = [some p.d, some course, some (.int i), some st.d, some (.loc f), some cm, some mn, o7, some (.loc R), o9, o10, o11, o12, o13, o14] ∧ Fm [f] h hx ∧ Ls hx f ((found ++ (rows.take j).map (p.logRow i)).map LRow.d) := ⟨_, fun _ _ _ => Iff.rfl⟩
  refine wFor_inv J ((hJ _ _ _).mpr ⟨o9, o10, o11, o12, rfl, Fm.refl _ _, by simpa using Lf⟩) (fun j x ρ hx hj Jj => ?_) (fun ρ hx Jj => ?_)
  · obtain ⟨o9, o10, o11, o12, e, F, L⟩ := (hJ _ _ _).mp Jj
    subst e
    rw [List.getElem?_map] at hj
    cases er : rows[j]? with
    | none => rw [er] at hj; cases hj
    | some r =>
    rw [er] at hj
    cases hj
    have jl := (List.getElem?_eq_some_iff.mp er).1
    have hr := List.mem_of_getElem? er
    have et : found ++ (rows.take (j + 1)).map (p.logRow i) = found ++ (rows.take j).map (p.logRow i) ++ [p.logRow i r] := by rw [List.take_add_one, er]; simp
    have LR' := LR.keep F (by simpa using Ne.symm fR)
    refine ⟨LR'.i, ?_⟩
    have n1 : (found ++ (rows.take j).map (p.logRow i)).length < 16777216 := by simp; omega
    generalize found ++ (rows.take j).map (p.logRow i) = pre at *
    have fin : ∀ (o9 o10 o11 o12 : Option D) (d : D), d = (p.logRow i r).d → J (j + 1) [some p.d, some course, some (.int i), some st.d, some (.loc f), some cm, some mn, o7, some (.loc R), o9, o10, o11, o12, o13, o14] (hx.set f (.lst (pre.map LRow.d ++ [d]))) := by
      intro o9 o10 o11 o12 d ed
      subst ed
      exact (hJ _ _ _).mpr ⟨_, _, _, _, rfl, F.set _ (.inl (by simp)), by rw [et]; simpa using L.set (pre.map LRow.d ++ [(p.logRow i r).d])⟩
    have tg : ∀ x, r.part = some x → ∀ h, ixO x.d (.int 4) h = some (.int (tagN x), h) := by
      intro x hx h
      obtain ⟨n, en, _⟩ := htag r hr x hx
      unfold Part.d tagN
      simp [en]
    simp [isLst_of L]
    cases ep : r.part with
    | none =>
      cases ea : r.at_ with
      | none =>
        simp [L.l, n1]
        exact fin _ _ _ _ _ (by simp [Pl.logRow, LRow.d, ep, ea]; rfl)
      | some k =>
        have hrow := Pl.row_at (hat r hr k ea)
        simp [L.l, n1, hrow]
        exact fin _ _ _ _ _ (by simp [Pl.logRow, LRow.d, ep, ea])
    | some x =>
      have tg := tg x ep
      cases ea : r.at_ with
      | none =>
        simp [L.l, n1, tg]
        exact fin _ _ _ _ _ (by simp [Pl.logRow, LRow.d, ep, ea]; rfl)
      | some k =>
        have hrow := Pl.row_at (hat r hr k ea)
        simp [L.l, n1, hrow, tg]
        exact fin _ _ _ _ _ (by simp [Pl.logRow, LRow.d, ep, ea])
  · obtain ⟨o9, o10, o11, o12, e, F, L⟩ := (hJ _ _ _).mp Jj
    subst e
    rw [List.length_map, List.take_length] at L
    exact ⟨(LR.keep F (by simpa using Ne.symm fR)).i, q _ _ _ _ _ F L⟩
end
end MP

/-! text SP18 -/
set_option Elab.async false
set_option linter.all false
set_option maxRecDepth 100000
set_option maxHeartbeats 4000000
namespace MP
open PySem PySem.Spec PyProof.Rows
open L2 hiding St
section
variable {p : Pl} {h : Hs} {Q : QE}
theorem lead_at {x : Part} (hx : x.ord < p.orders.length) : ∃ o, p.orders[x.ord]? = some o ∧ o.lead = p.leadOf x := by
  refine ⟨_, List.getElem?_eq_getElem hx, ?_⟩
  unfold Pl.leadOf
  rw [List.getElem?_eq_getElem hx]
  rfl
theorem inside_parts {s : Sta} {gb qb : Nat} (hs : StaOk p s gb qb) (ht : StaT Tagged s) : ∀ x ∈ s.inside, x.ord < p.orders.length ∧ Tagged x.tag := by
  intro x hx
  unfold Sta.inside at hx
  rcases List.mem_append.mp hx with hx | hx
  · rcases List.mem_append.mp hx with hx | hx
    · exact ⟨(hs.gate x hx).ord, ht.gate x hx⟩
    · obtain ⟨q, hq, hx⟩ := List.mem_flatten.mp hx
      exact ⟨((hs.part q hq).1 x hx).ord, ht.que q hq x hx⟩
  · obtain ⟨b, hb, e⟩ := List.mem_filterMap.mp hx
    cases hh : b.hold with
    | none => rw [hh] at e; cases e
    | some xk =>
      obtain ⟨y, k⟩ := xk
      rw [hh] at e
      cases e
      have := (hs.hold b hb).1
      rw [hh] at this
      exact ⟨this.1, ht.bay b hb _ _ hh⟩
theorem log_ok {said : List Str} (hp : PlOk p) (C : CourseOk p said) (q : ∀ f h', Fm [] h h' → h.length ≤ f → Ls h' f ((p.logAll said).found.map LRow.d) → Q (.loc f) h') : wF F_law_log [p.d, .tup (said.map D.str)] h Q := by
  have n26 := hp.len
  have o100 := hp.olen
  have c40 := C.len
  unfold F_law_log
  refine wF_runK ?_
  unfold S_law_log
  simp
  refine start_ok hp fun h1 f1 => ?_
  refine ⟨by omega, ?_⟩
  have f2 : Fm [] h1 (h1 ++ [.lst []]) := (Fm.refl _ _).app _
  have L0 := Ls.new h1 []
  have e1 := f1.len
  obtain ⟨f, ef⟩ : ∃ f, f = h1.length := ⟨_, rfl⟩
  rw [← ef] at L0 ⊢
  generalize h1 ++ [AO.lst []] = h2 at *
  unfold rangeD
  simp
  obtain ⟨J, hJ⟩ : ∃ J : Nat → Rho → Hs → Prop, ∀ i ρ hx, J i ρ hx ↔ ∃ o2 o6 o7 o8 o9 o10 o11 o12, ρ = [some p.d, some (.tup (said.map D.str)), o2, some (p.logAll (said.take i)).st.d, some (.loc f), some (.int (p.logAll (said.take i)).coming), o6, o7, o8, o9, o10, o11, o12, none, none] ∧ Fm [] h hx ∧ Ls hx f ((p.logAll (said.take i)).found.map LRow.d) := ⟨_, fun _ _ _ => Iff.rfl⟩
  refine wFor_inv J ((hJ _ _ _).mpr ⟨none, none, none, none, none, none, none, none, rfl, f1.trans f2, L0⟩) (fun i x ρ hx hi Ji => ?_) (fun ρ hx Ji => ?_)
  · obtain ⟨o2, o6, o7, o8, o9, o10, o11, o12, e, F, L⟩ := (hJ _ _ _).mp Ji
    subst e
    obtain ⟨hi1, rfl⟩ := range_at hi
    obtain ⟨w, hw⟩ : ∃ w, said[i]? = some w := ⟨_, List.getElem?_eq_getElem hi1⟩
    have tl : (said.take i).length = i := by simp; omega
    have lo := logOk_all hp i (said.take i) tl (by omega)
    have lo2 := logOk_step (w := w) hp lo (by omega)
    have et : said.take (i + 1) = said.take i ++ [w] := by rw [List.take_add_one, hw]; rfl
    have en : p.logAll (said.take (i + 1)) = p.logStep (p.logAll (said.take i)) w := by rw [et, logAll_snoc]
    have hop := C.open_ i w hw
    rw [← lo.er] at hop
    have li : (p.logAll (said.take i)).i = i := by rw [lo.i, tl]
    generalize hL : p.logAll (said.take i) = l at *
    have c100 := coming_len p l.st.phase
    refine ⟨trivial, ?_⟩
    simp
    refine wLc_pureM (fun o : Order => decide (o.phase = l.st.phase)) (fun o => o.d) (by simp; omega) (fun _ _ => trivial) (fun o h3 ho f3 => by simp) (fun h3 f3 L3 => ?_)
    have cc := coming_count p l.st.phase
    simp [L3.i, hw]
    rw [cc]
    refine ⟨by omega, ?_⟩
    unfold rangeD
    simp
    refine wLc_mapM (dec := fun (k : Nat) => D.int k) (fun k : Nat => D.tup [.int (l.coming + k)]) (by simp; omega) (fun _ _ => trivial) (fun k h4 hk f4 => by simp) (fun h4 f4 L4 => ?_)
    have etg : D.tup ((List.range (p.coming l.st.phase).length).map fun (k : Nat) => D.tup [.int (l.coming + k)]) = tagsD (p.tagsAt l.st l.coming) := by
      unfold tagsD Pl.tagsAt
      rw [List.map_map]; rfl
    simp [L4.i, etg]
    refine moment_ok hp lo.st (.inr (tagsAt_len _ _)) (fun k b hb => back_of hp hop k b hb (mo2_lt hp lo.st hb)) (by omega) (by omega) fun R h5 f5 hR LR => ?_
    have F5 := (f3.trans f4).trans f5
    have Lf5 := L.keep0 F5
    simp
    have tlen := told_len hp lo.st (word := w) (tags := p.tagsAt l.st l.coming)
    have flen := lo.len
    have fR : f ≠ R := by have := L.lt; have := f3.len; have := f4.len; omega
    refine ⟨_, LR.i, ?_⟩
    refine log_rows (i := i) (st := p.next l.st w (p.tagsAt l.st l.coming)) hp (told_tag lo.tag (fresh_tag lo.one)) (told_at hp lo.st) Lf5 LR fR (by omega) fun h6 o9 o10 o11 o12 f6 L6 => ?_
    have st2 : StaOk p (p.next l.st w (p.tagsAt l.st l.coming)) _ _ := lo2.st
    have tg2 : StaT Tagged (p.next l.st w (p.tagsAt l.st l.coming)) := lo2.tag
    have ins := inside_parts st2 tg2
    have cn2 : (p.next l.st w (p.tagsAt l.st l.coming)).inside.length ≤ 4000 := by rw [inside_cnt]; have h := lo2.cnt; rw [List.length_append, tl] at h; have h : (p.next l.st w (p.tagsAt l.st l.coming)).cnt ≤ 100 * (i + 1) := h; omega
    simp
    refine inside_okD (by rw [st2.bl]; omega) (by rw [st2.ql]; omega) (fun q hq => by have := (st2.part q hq).2; rw [List.length_append, tl] at this; simp at this; omega) (by have := st2.glen; rw [List.length_append, tl] at this; simp at this; omega) fun g h7 f7 L7 => ?_
    generalize hS : p.next l.st w (p.tagsAt l.st l.coming) = S at *
    have Lf7 := L6.keep0 f7
    have F6 : Fm [] h h6 := (F.trans F5).then1 f6 (.inr (by omega))
    have F7 := F6.trans f7
    simp [L7.i]
    refine wLc_pureM (fun x : Part => decide (x.age = p.leadOf x)) (fun x => pairD (tagN x, x.age)) (by simp; omega) (fun h' f' => (L7.keep0 f').i) (fun x h8 hx f8 => ?_) (fun h8 f8 L8 => ?_)
    · obtain ⟨i1, n, en, _⟩ := ins x hx
      obtain ⟨o, ho, eo⟩ := lead_at (p := p) i1
      have tg : ixO x.d (.int 4) h8 = some (.int (tagN x), h8) := by
        unfold Part.d tagN
        simp [en]
      simp [ho, eo, tg, pairD]
    have L8' : itemsAt h8 h7.length = some (((S.inside.filter fun x => decide (x.age = p.leadOf x)).map fun x => (tagN x, x.age)).map pairD) := by rw [List.map_map]; exact L8.i
    refine wsort_pairs L8' fun h9 f9 L9 => ?_
    have L9 : Ls h9 h8.length ((p.lates S).map pairD) := L9
    have ll := lates_len (p := p) S
    rw [inside_cnt] at cn2
    have Lf9 := (Lf7.keep0 f8).keep0 f9
    refine ⟨isLst_of Lf9, ?_⟩
    simp [L9.i]
    refine wLc_mapM (fun q : Int × Int => (lateRow i q).d) (by simp; omega) (fun h' f' => (L9.keep0 f').i) (fun q h10 hq f10 => by simp [pairD, lateRow, LRow.d]; rfl) (fun h10 f10 L10 => ?_)
    have Lf10 := Lf9.keep0 f10
    have n1 : (l.found ++ (p.told l.st w (p.tagsAt l.st l.coming)).map (p.logRow i)).length + (p.lates S).length ≤ 16777216 := by
      simp only [List.length_append, List.length_map]
      omega
    have ef2 : (p.logStep l w).found = (l.found ++ (p.told l.st w (p.tagsAt l.st l.coming)).map (p.logRow i)) ++ (p.lates S).map (lateRow i) := by
      rw [← hS, ← li]; rfl
    have es2 : (p.logStep l w).st = S := hS
    have ec2 : (p.logStep l w).coming = l.coming + ((p.coming l.st.phase).length : Int) := rfl
    generalize l.found ++ (p.told l.st w (p.tagsAt l.st l.coming)).map (p.logRow i) = pre at *
    simp [Lf10.l, L10.l, n1]
    refine (hJ _ _ _).mpr ⟨_, _, _, _, _, _, _, _, by rw [en, es2, ec2], ((((F7.trans f8).trans f9).trans f10)).set _ (.inr (by omega)), ?_⟩
    rw [en, ef2]
    simpa [Function.comp_def] using Lf10.set (pre.map LRow.d ++ (p.lates S).map fun q => (lateRow i q).d)
  · obtain ⟨o2, o6, o7, o8, o9, o10, o11, o12, e, F, L⟩ := (hJ _ _ _).mp Ji
    subst e
    rw [List.length_map, List.length_range, List.take_length] at L
    refine ⟨trivial, ?_⟩
    simp
    exact q f hx F (by omega) L
end
end MP

/-! text SP19 -/
set_option Elab.async false
set_option linter.all false
set_option maxRecDepth 100000
set_option maxHeartbeats 4000000
namespace MP
open PySem PySem.Spec PyProof.Rows
open L2 hiding St
section
variable {h : Hs} {Q : QE}
theorem lines_ok {r : Nat} (w : Rw r h) (q : ∀ (p : Pl) (said : List Str) f h', PlOk p → 1 ≤ p.often → CourseOk p said → said.length ≤ 16 → Gr r h h' → h.length ≤ f → Ls h' f ((p.logAll said).found.map LRow.d) → Q (.tup [p.d, .tup (said.map D.str), .loc f]) h') : wF F_law_lines [.loc r] h Q := by
  have hr := w.lt
  unfold F_law_lines
  refine wF_runK ?_
  unfold S_law_lines
  simp
  refine small_ok w fun p h1 hp g1 => ?_
  have kl := hp.klen
  simp
  refine wLc_mapM (fun x : Route => .str x.name) (by simp; omega) (fun _ _ => trivial) (fun x h2 hx f2 => by simp) (fun h2 f2 L2 => ?_)
  have G2 := g1.keep f2
  have L2 : Ls h2 h1.length ((p.routes.map Route.name).map D.str) := by rw [List.map_map]; exact L2
  have e1 := g1.fm.len
  obtain ⟨K, eK⟩ : ∃ K, K = h1.length := ⟨_, rfl⟩
  rw [← eK] at L2
  simp only [← eK]
  have Kr : K ≠ r := by omega
  refine taken_ok G2.rw (by omega) (by omega) fun n h3 n0 n1 g3 => ?_
  have G3 := G2.trans g3
  have L3 := L2.keep g3.fm (by simpa using Kr)
  simp
  refine ⟨by omega, ?_⟩
  have hpd := hp.period
  unfold rangeD
  refine wLc_draw (P := fun (_ : Nat) (o : Order) => OrderOk p.period (p.routes.map Route.name) o) (enc := Order.d) g3.rw (by simp; omega) (fun h' g => trivial) (fun x h4 hx g4 => ?_) (fun os h4 g4 L4 hl hpos => ?_)
  · simp
    refine ⟨Gr.refl g4.rw, ?_⟩
    refine taken_ok g4.rw (by omega) (by omega) fun ph h5 p0 p1 g5 => ?_
    refine pick_ok g5.rw ((L3.keep g4.fm (by simpa using Kr)).keep g5.fm (by simpa using Kr)).i (by have := hp.kne; simpa using this) (by simp; omega) (fun d h6 hd g6 => ?_) Kr
    obtain ⟨kd, hkd, rfl⟩ := List.mem_map.mp hd
    refine taken_ok g6.rw (by omega) (by omega) fun ld h7 l0 l1 g7 => ?_
    simp
    exact ⟨⟨ph, kd, 1 + ld⟩, rfl, ⟨⟨p0, p1⟩, hkd, by simp; omega⟩, (g5.trans g6).trans g7⟩
  have G4 := G3.trans g4
  have oos : ∀ o ∈ os, OrderOk p.period (p.routes.map Route.name) o := by
    intro o ho
    obtain ⟨i, hi⟩ := List.getElem?_of_mem ho
    have hi' := (List.getElem?_eq_some_iff.mp hi).1
    exact hpos i i o (by rw [List.getElem?_range (by simp at hl; omega)]) hi
  simp [L4.i]
  refine pickN_ok [1, 2, 3] 1 3 g4.rw (by decide) (by decide) (by decide) fun often h5 _ a1 a3 g5 => ?_
  have G5 := G4.trans g5
  refine taken_ok g5.rw (by omega) (by omega) fun most h6 b0 b1 g6 => ?_
  have G6 := G5.trans g6
  have ep : D.tup [.tup (p.rows.map Stn.d), .tup (p.routes.map Route.d), .int p.period, .tup (os.map Order.d), .tup (p.setups.map Setup.d), .tup [.int often, .int p.apart], .int most] = ({ p with orders := os, often := often, most := most } : Pl).d := rfl
  have hp2 : PlOk { p with orders := os, often := often, most := most } := {
    ne := hp.ne
    len := hp.len
    nd := hp.nd
    row := hp.row
    kne := hp.kne
    klen := hp.klen
    knd := hp.knd
    route := hp.route
    period := hp.period
    olen := by show os.length ≤ 100; simp at hl; omega
    order := oos
    slen := hp.slen
    setup := hp.setup
    often := ⟨by show 0 ≤ often; omega, a3⟩
    apart := hp.apart
    most := ⟨b0, by show most ≤ 3; omega⟩ }
  rw [ep]
  have oft : 1 ≤ ({ p with orders := os, often := often, most := most } : Pl).often := a1
  generalize ({ p with orders := os, often := often, most := most } : Pl) = p2 at *
  refine pickN_ok [0, 4, 8, 12, 16] 0 16 g6.rw (by decide) (by decide) (by decide) fun many h7 _ c0 c1 g7 => ?_
  have G7 := G6.trans g7
  refine walk_ok hp2 g7.rw c0 (by omega) fun said S h8 g8 C hl8 LS => ?_
  have G8 := G7.trans g8
  simp
  refine log_ok hp2 C fun f h9 f9 hf L9 => ?_
  have e8 := G8.fm.len
  exact q p2 said f h9 hp2 oft C (by omega) (G8.keep f9) (by omega) L9
theorem tickets_ok {n : Nat} {rows : List LRow} (L : Ls h n (rows.map LRow.d)) (hl : rows.length ≤ 10000000) (q : ∀ f h', Fm [] h h' → Ls h' f ((sortI ((rows.filter fun r => decide (r.word = Str.ofString "came")).map LRow.tick)).map D.int) → Q (.loc f) h') : wF F_law_tickets [.loc n] h Q := by
  unfold F_law_tickets
  refine wF_runK ?_
  unfold S_law_tickets
  simp [L.i]
  refine wLc_pureM (fun r : LRow => decide (r.word = Str.ofString "came")) (fun r => .int r.tick) (by simp; omega) (fun h' f' => (L.keep0 f').i) (fun r h1 hx f => by simp [LRow.d]) (fun h1 f1 L1 => ?_)
  have L1 : itemsAt h1 h.length = some (((rows.filter fun r => decide (r.word = Str.ofString "came")).map LRow.tick).map D.int) := by rw [List.map_map]; exact L1.i
  refine wsort_ints L1 fun h2 f2 L2 => ?_
  exact q _ h2 (f1.trans f2) L2
end
end MP

/-! text SP20 -/
set_option Elab.async false
set_option linter.all false
set_option maxRecDepth 100000
set_option maxHeartbeats 4000000
namespace MP
open PySem PySem.Spec PyProof.Rows
open L2 hiding St
/-! ### alike things -/
def okA : Nat → D → Bool
  | _, .non => true
  | _, .bl _ => true
  | _, .int _ => true
  | _, .str _ => true
  | n + 1, .tup xs => decide (xs.length ≤ 1000000) && xs.all (okA n)
  | _, _ => false
theorem alike_ok : ∀ (n : Nat) (d : D) (h : Hs) (Q : QE), okA n d = true → (∀ h', Fm [] h h' → Q (.bl true) h') → wF (F_law_alike_at (n + 1)) [d, d] h Q := by
  intro n
  induction n with
  | zero =>
    intro d h Q hd q
    unfold F_law_alike_at
    refine wF_runK ?_
    unfold S_law_alike
    cases d with
    | tup xs => cases hd
    | loc l => cases hd
    | gl a => cases hd
    | ty a => cases hd
    | non => simp; exact q h (Fm.refl _ _)
    | bl b => simp; exact q h (Fm.refl _ _)
    | int b => simp; exact q h (Fm.refl _ _)
    | str b => simp; exact q h (Fm.refl _ _)
  | succ n ih =>
    intro d h Q hd q
    unfold F_law_alike_at
    refine wF_runK ?_
    unfold S_law_alike
    cases d with
    | loc l => cases hd
    | gl a => cases hd
    | ty a => cases hd
    | non => simp; exact q h (Fm.refl _ _)
    | bl b => simp; exact q h (Fm.refl _ _)
    | int b => simp; exact q h (Fm.refl _ _)
    | str b => simp; exact q h (Fm.refl _ _)
    | tup xs =>
      have hd : (decide (xs.length ≤ 1000000) && xs.all (okA n)) = true := hd
      rw [Bool.and_eq_true] at hd
      have hl := of_decide_eq_true hd.1
      have ha := List.all_eq_true.mp hd.2
      simp
      refine ⟨by omega, ?_⟩
      unfold rangeD
      simp
      refine wLc_pureM (dec := fun (k : Nat) => D.int k) (fun _ => false) (fun k => .int k) (by simp; omega) (fun _ _ => trivial) (fun k h1 hk f => ?_) (fun h1 f1 L1 => ?_)
      · have hk : k < xs.length := by simpa using hk
        have ex : xs[k]? = some xs[k] := List.getElem?_eq_getElem hk
        simp [ex]
        refine ih _ _ _ (ha _ (List.getElem_mem hk)) fun h2 f2 => ?_
        simpa using f2
      · have e0 : ((List.range xs.length).filter fun _ => false).map (fun (k : Nat) => D.int k) = [] := by
          rw [List.filter_eq_nil_iff.mpr (by simp)]; rfl
        rw [e0] at L1
        have e := eqo_nilL (h := h1 ++ [.lst []]) (n := 1) (L1.app [.lst []]).i (Ls.new h1 []).i (by omega) rfl
        simp only [wO_some, e]
        simp
        exact q _ (f1.app _)
/-! ### a log's rows are right -/
def WORDS : List Str := [Str.ofString "struck", Str.ofString "came", Str.ofString "queued", Str.ofString "changed", Str.ofString "took", Str.ofString "finished", Str.ofString "spoiled", Str.ofString "done", Str.ofString "late"]
structure LWf (r : LRow) : Prop where
  mom : 0 ≤ r.mom ∧ r.mom ≤ 599
  word : r.word ∈ WORDS
  tick : 0 ≤ r.tick
  stn : r.stn.length ≤ 16
section
variable {p : Pl}
theorem told_word {s : Sta} {word : Str} {tags : List Int} : ∀ r ∈ p.told s word tags, r.word ∈ WORDS := by
  intro r hr
  obtain ⟨A, O, e, qA, qO⟩ := told_form (p := p) s word tags
  have hq : ∀ r, quiet r → r.word ∈ WORDS := by
    intro r h
    unfold quiet at h
    unfold WORDS
    simp only [List.mem_cons, List.not_mem_nil, or_false] at h ⊢
    rcases h with h | h | h | h | h <;> simp [h]
  rw [e] at hr
  rcases List.mem_append.mp hr with hr | hr
  · unfold Pl.strikeRows at hr
    split at hr
    · rw [List.mem_singleton.mp hr]; simp [WORDS]
    · cases hr
  · rcases List.mem_append.mp hr with hr | hr
    · exact hq r (qA r hr)
    · rcases List.mem_append.mp hr with hr | hr
      · obtain ⟨k, b, _, _, hr⟩ := mem_workRows.mp hr
        obtain ⟨_, _, x, _, er⟩ := work_row hr
        rw [er]
        show (if _ then _ else _) ∈ WORDS
        split <;> simp [WORDS]
      · exact hq r (qO r hr)
theorem log_wf (hp : PlOk p) : ∀ (n : Nat) (said : List Str), said.length = n → n ≤ 40 → ∀ r ∈ (p.logAll said).found, LWf r := by
  intro n
  induction n with
  | zero =>
    intro said h _ r hr
    rw [List.length_eq_zero_iff.mp h] at hr
    cases hr
  | succ n ih =>
    intro said h hn r hr
    have hne : said ≠ [] := by intro e; subst e; simp at h
    have hl : said.dropLast.length = n := by simp; omega
    have lo := logOk_all hp n said.dropLast hl (by omega)
    have ih := ih said.dropLast hl (by omega)
    rw [← List.dropLast_concat_getLast hne, logAll_snoc] at hr
    generalize p.logAll said.dropLast = l at *
    have li := lo.i
    have hr : r ∈ l.found ++ (p.told l.st (said.getLast hne) (p.tagsAt l.st l.coming)).map (p.logRow l.i) ++ (p.lates (p.next l.st (said.getLast hne) (p.tagsAt l.st l.coming))).map (lateRow l.i) := hr
    rcases List.mem_append.mp hr with hr | hr
    · rcases List.mem_append.mp hr with hr | hr
      · exact ih r hr
      · obtain ⟨t, ht, rfl⟩ := List.mem_map.mp hr
        refine ⟨⟨by show (0 : Int) ≤ l.i; omega, by show (l.i : Int) ≤ 599; omega⟩, told_word t ht, ?_, ?_⟩
        case refine_2 =>
          show ((t.at_.map fun k => (p.row k).name).getD ⟨#[]⟩).length ≤ 16
          cases ea : t.at_ with
          | none => show (Str.mk #[]).length ≤ 16; decide
          | some k => exact (names_nm hp (row_name (told_at hp lo.st t ht k ea))).top
        show 0 ≤ (t.part.map tagN).getD 0
        cases ep : t.part with
        | none => simp
        | some x =>
          obtain ⟨m, em, hm⟩ := told_tag lo.tag (fresh_tag lo.one) t ht x ep
          simp [tagN, em]; omega
    · obtain ⟨q, hq, rfl⟩ := List.mem_map.mp hr
      refine ⟨⟨by show (0 : Int) ≤ l.i; omega, by show (l.i : Int) ≤ 599; omega⟩, by simp [lateRow, WORDS], ?_, by show (Str.mk #[]).length ≤ 16; decide⟩
      show 0 ≤ q.1
      unfold Pl.lates at hq
      have hq := (List.mergeSort_perm _ leP).mem_iff.mp hq
      obtain ⟨x, hx, rfl⟩ := List.mem_map.mp hq
      have hx := (List.mem_filter.mp hx).1
      have lo2 := logOk_step (w := said.getLast hne) hp lo (by omega)
      obtain ⟨_, m, em, hm⟩ := inside_parts lo2.st lo2.tag x hx
      simp [tagN, em]; omega
end
/-! ### the program's look at a log -/
section
variable {h : Hs} {Q : QE}
theorem is_whole_int {i : Int} (q : Q (.bl true) h) : wF F_is_whole [.int i] h Q := by
  unfold F_is_whole
  refine wF_runK ?_
  unfold S_is_whole
  simpa using q
theorem is_within_int {i a b : Int} (q : Q (.bl (decide (a ≤ i ∧ i ≤ b))) h) : wF F_is_within [.int i, .int a, .int b] h Q := by
  unfold F_is_within
  refine wF_runK ?_
  unfold S_is_within
  simp
  refine is_whole_int ?_
  simp
  split
  · rename_i c; simpa [c] using q
  · rename_i c; simpa [c] using q
theorem is_log_row_ok {r : LRow} (o : LWf r) (q : Q (.bl true) h) : wF F_is_log_row [r.d] h Q := by
  unfold F_is_log_row
  refine wF_runK ?_
  unfold S_is_log_row LRow.d
  simp
  unfold F_is_row
  refine wF_runK ?_
  unfold S_is_row
  simp [c_MOST_MOMENTS]
  refine is_within_int ?_
  have e : decide (0 ≤ r.mom ∧ r.mom ≤ 599) = true := decide_eq_true o.mom
  simp [e]
  have hw : notInO (.str r.word) c_WORDS h = some (.bl false, h) := by
    rw [nin_strs (xs := WORDS) rfl (fun b => by unfold c_WORDS; simp), decide_eq_true o.word]; rfl
  simp [hw]
  refine is_whole_int ?_
  have := o.tick
  simp
  rw [if_neg (by omega)]
  exact is_whole_int q
theorem enum_at {xs : List D} {i : Nat} {y : D} (h : (enumD xs)[i]? = some y) : ∃ x, xs[i]? = some x ∧ y = .tup [.int (i : Nat), x] := by
  have hl := (List.getElem?_eq_some_iff.mp h).1
  rw [enumD_len] at hl
  have e := enumD_get (List.getElem?_eq_getElem hl)
  rw [e] at h
  exact ⟨_, List.getElem?_eq_getElem hl, (Option.some.inj h).symm⟩
theorem require_log_ok {rows : List LRow} (o : ∀ r ∈ rows, LWf r) (q : Q .non h) : wF F_require_log [.tup (rows.map LRow.d)] h Q := by
  unfold F_require_log
  refine wF_runK ?_
  unfold S_require_log
  simp
  obtain ⟨J, hJ⟩ : ∃ J : Nat → Rho → Hs → Prop, ∀ i ρ hx, J i ρ hx ↔ ∃ o1 o2, ρ = [some (.tup (rows.map LRow.d)), o1, o2] ∧ hx = h := ⟨_, fun _ _ _ => Iff.rfl⟩
  refine wFor_inv J ((hJ _ _ _).mpr ⟨none, none, rfl, rfl⟩) (fun i x ρ hx hi Ji => ?_) (fun ρ hx Ji => ?_)
  · obtain ⟨o1, o2, e, eh⟩ := (hJ _ _ _).mp Ji
    subst e; subst eh
    obtain ⟨y, hy, rfl⟩ := enum_at hi
    rw [List.getElem?_map] at hy
    cases er : rows[i]? with
    | none => rw [er] at hy; cases hy
    | some r =>
    rw [er] at hy
    cases hy
    refine ⟨trivial, ?_⟩
    simp
    refine is_log_row_ok (o r (List.mem_of_getElem? er)) ?_
    simp
    exact (hJ _ _ _).mpr ⟨_, _, rfl, rfl⟩
  · obtain ⟨o1, o2, e, eh⟩ := (hJ _ _ _).mp Ji
    subst e; subst eh
    refine ⟨trivial, ?_⟩
    simpa using q
theorem tickets_in_ok {rows : List LRow} (o : ∀ r ∈ rows, LWf r) (hl : rows.length ≤ 10000000) (q : ∀ h', Fm [] h h' → Q (.tup ((sortI ((rows.filter fun r => decide (r.word = Str.ofString "came")).map LRow.tick)).map D.int)) h') : wF F_tickets_in [.tup (rows.map LRow.d)] h Q := by
  unfold F_tickets_in
  refine wF_runK ?_
  unfold S_tickets_in
  simp
  refine require_log_ok o ?_
  refine wLc_pureM (fun r : LRow => decide (r.word = Str.ofString "came")) (fun r => .int r.tick) (by simp; omega) (fun h' f' => trivial) (fun r h1 hx f => by simp [LRow.d]) (fun h1 f1 L1 => ?_)
  have L1 : itemsAt h1 h.length = some (((rows.filter fun r => decide (r.word = Str.ofString "came")).map LRow.tick).map D.int) := by rw [List.map_map]; exact L1.i
  refine wsort_ints L1 fun h2 f2 L2 => ?_
  simp [L2.i]
  exact q h2 (f1.trans f2)
end
end MP

/-! text STW -/
set_option Elab.async false
set_option linter.all false
namespace MP
open PySem PySem.Spec PyProof.Rows
open L2 hiding St
/-! the words of a log differ -/
@[simp] theorem wne_struck_came : (Str.ofString "struck" = Str.ofString "came") = False := eq_false (by decide +kernel)
@[simp] theorem wne_struck_queued : (Str.ofString "struck" = Str.ofString "queued") = False := eq_false (by decide +kernel)
@[simp] theorem wne_struck_changed : (Str.ofString "struck" = Str.ofString "changed") = False := eq_false (by decide +kernel)
@[simp] theorem wne_struck_took : (Str.ofString "struck" = Str.ofString "took") = False := eq_false (by decide +kernel)
@[simp] theorem wne_struck_finished : (Str.ofString "struck" = Str.ofString "finished") = False := eq_false (by decide +kernel)
@[simp] theorem wne_struck_spoiled : (Str.ofString "struck" = Str.ofString "spoiled") = False := eq_false (by decide +kernel)
@[simp] theorem wne_struck_done : (Str.ofString "struck" = Str.ofString "done") = False := eq_false (by decide +kernel)
@[simp] theorem wne_struck_late : (Str.ofString "struck" = Str.ofString "late") = False := eq_false (by decide +kernel)
@[simp] theorem wne_struck_gone : (Str.ofString "struck" = Str.ofString "gone") = False := eq_false (by decide +kernel)
@[simp] theorem wne_came_struck : (Str.ofString "came" = Str.ofString "struck") = False := eq_false (by decide +kernel)
@[simp] theorem wne_came_queued : (Str.ofString "came" = Str.ofString "queued") = False := eq_false (by decide +kernel)
@[simp] theorem wne_came_changed : (Str.ofString "came" = Str.ofString "changed") = False := eq_false (by decide +kernel)
@[simp] theorem wne_came_took : (Str.ofString "came" = Str.ofString "took") = False := eq_false (by decide +kernel)
@[simp] theorem wne_came_finished : (Str.ofString "came" = Str.ofString "finished") = False := eq_false (by decide +kernel)
@[simp] theorem wne_came_spoiled : (Str.ofString "came" = Str.ofString "spoiled") = False := eq_false (by decide +kernel)
@[simp] theorem wne_came_done : (Str.ofString "came" = Str.ofString "done") = False := eq_false (by decide +kernel)
@[simp] theorem wne_came_late : (Str.ofString "came" = Str.ofString "late") = False := eq_false (by decide +kernel)
@[simp] theorem wne_came_gone : (Str.ofString "came" = Str.ofString "gone") = False := eq_false (by decide +kernel)
@[simp] theorem wne_queued_struck : (Str.ofString "queued" = Str.ofString "struck") = False := eq_false (by decide +kernel)
@[simp] theorem wne_queued_came : (Str.ofString "queued" = Str.ofString "came") = False := eq_false (by decide +kernel)
@[simp] theorem wne_queued_changed : (Str.ofString "queued" = Str.ofString "changed") = False := eq_false (by decide +kernel)
@[simp] theorem wne_queued_took : (Str.ofString "queued" = Str.ofString "took") = False := eq_false (by decide +kernel)
@[simp] theorem wne_queued_finished : (Str.ofString "queued" = Str.ofString "finished") = False := eq_false (by decide +kernel)
@[simp] theorem wne_queued_spoiled : (Str.ofString "queued" = Str.ofString "spoiled") = False := eq_false (by decide +kernel)
@[simp] theorem wne_queued_done : (Str.ofString "queued" = Str.ofString "done") = False := eq_false (by decide +kernel)
@[simp] theorem wne_queued_late : (Str.ofString "queued" = Str.ofString "late") = False := eq_false (by decide +kernel)
@[simp] theorem wne_queued_gone : (Str.ofString "queued" = Str.ofString "gone") = False := eq_false (by decide +kernel)
@[simp] theorem wne_changed_struck : (Str.ofString "changed" = Str.ofString "struck") = False := eq_false (by decide +kernel)
@[simp] theorem wne_changed_came : (Str.ofString "changed" = Str.ofString "came") = False := eq_false (by decide +kernel)
@[simp] theorem wne_changed_queued : (Str.ofString "changed" = Str.ofString "queued") = False := eq_false (by decide +kernel)
@[simp] theorem wne_changed_took : (Str.ofString "changed" = Str.ofString "took") = False := eq_false (by decide +kernel)
@[simp] theorem wne_changed_finished : (Str.ofString "changed" = Str.ofString "finished") = False := eq_false (by decide +kernel)
@[simp] theorem wne_changed_spoiled : (Str.ofString "changed" = Str.ofString "spoiled") = False := eq_false (by decide +kernel)
@[simp] theorem wne_changed_done : (Str.ofString "changed" = Str.ofString "done") = False := eq_false (by decide +kernel)
@[simp] theorem wne_changed_late : (Str.ofString "changed" = Str.ofString "late") = False := eq_false (by decide +kernel)
@[simp] theorem wne_changed_gone : (Str.ofString "changed" = Str.ofString "gone") = False := eq_false (by decide +kernel)
@[simp] theorem wne_took_struck : (Str.ofString "took" = Str.ofString "struck") = False := eq_false (by decide +kernel)
@[simp] theorem wne_took_came : (Str.ofString "took" = Str.ofString "came") = False := eq_false (by decide +kernel)
@[simp] theorem wne_took_queued : (Str.ofString "took" = Str.ofString "queued") = False := eq_false (by decide +kernel)
@[simp] theorem wne_took_changed : (Str.ofString "took" = Str.ofString "changed") = False := eq_false (by decide +kernel)
@[simp] theorem wne_took_finished : (Str.ofString "took" = Str.ofString "finished") = False := eq_false (by decide +kernel)
@[simp] theorem wne_took_spoiled : (Str.ofString "took" = Str.ofString "spoiled") = False := eq_false (by decide +kernel)
@[simp] theorem wne_took_done : (Str.ofString "took" = Str.ofString "done") = False := eq_false (by decide +kernel)
@[simp] theorem wne_took_late : (Str.ofString "took" = Str.ofString "late") = False := eq_false (by decide +kernel)
@[simp] theorem wne_took_gone : (Str.ofString "took" = Str.ofString "gone") = False := eq_false (by decide +kernel)
@[simp] theorem wne_finished_struck : (Str.ofString "finished" = Str.ofString "struck") = False := eq_false (by decide +kernel)
@[simp] theorem wne_finished_came : (Str.ofString "finished" = Str.ofString "came") = False := eq_false (by decide +kernel)
@[simp] theorem wne_finished_queued : (Str.ofString "finished" = Str.ofString "queued") = False := eq_false (by decide +kernel)
@[simp] theorem wne_finished_changed : (Str.ofString "finished" = Str.ofString "changed") = False := eq_false (by decide +kernel)
@[simp] theorem wne_finished_took : (Str.ofString "finished" = Str.ofString "took") = False := eq_false (by decide +kernel)
@[simp] theorem wne_finished_spoiled : (Str.ofString "finished" = Str.ofString "spoiled") = False := eq_false (by decide +kernel)
@[simp] theorem wne_finished_done : (Str.ofString "finished" = Str.ofString "done") = False := eq_false (by decide +kernel)
@[simp] theorem wne_finished_late : (Str.ofString "finished" = Str.ofString "late") = False := eq_false (by decide +kernel)
@[simp] theorem wne_finished_gone : (Str.ofString "finished" = Str.ofString "gone") = False := eq_false (by decide +kernel)
@[simp] theorem wne_spoiled_struck : (Str.ofString "spoiled" = Str.ofString "struck") = False := eq_false (by decide +kernel)
@[simp] theorem wne_spoiled_came : (Str.ofString "spoiled" = Str.ofString "came") = False := eq_false (by decide +kernel)
@[simp] theorem wne_spoiled_queued : (Str.ofString "spoiled" = Str.ofString "queued") = False := eq_false (by decide +kernel)
@[simp] theorem wne_spoiled_changed : (Str.ofString "spoiled" = Str.ofString "changed") = False := eq_false (by decide +kernel)
@[simp] theorem wne_spoiled_took : (Str.ofString "spoiled" = Str.ofString "took") = False := eq_false (by decide +kernel)
@[simp] theorem wne_spoiled_finished : (Str.ofString "spoiled" = Str.ofString "finished") = False := eq_false (by decide +kernel)
@[simp] theorem wne_spoiled_done : (Str.ofString "spoiled" = Str.ofString "done") = False := eq_false (by decide +kernel)
@[simp] theorem wne_spoiled_late : (Str.ofString "spoiled" = Str.ofString "late") = False := eq_false (by decide +kernel)
@[simp] theorem wne_spoiled_gone : (Str.ofString "spoiled" = Str.ofString "gone") = False := eq_false (by decide +kernel)
@[simp] theorem wne_done_struck : (Str.ofString "done" = Str.ofString "struck") = False := eq_false (by decide +kernel)
@[simp] theorem wne_done_came : (Str.ofString "done" = Str.ofString "came") = False := eq_false (by decide +kernel)
@[simp] theorem wne_done_queued : (Str.ofString "done" = Str.ofString "queued") = False := eq_false (by decide +kernel)
@[simp] theorem wne_done_changed : (Str.ofString "done" = Str.ofString "changed") = False := eq_false (by decide +kernel)
@[simp] theorem wne_done_took : (Str.ofString "done" = Str.ofString "took") = False := eq_false (by decide +kernel)
@[simp] theorem wne_done_finished : (Str.ofString "done" = Str.ofString "finished") = False := eq_false (by decide +kernel)
@[simp] theorem wne_done_spoiled : (Str.ofString "done" = Str.ofString "spoiled") = False := eq_false (by decide +kernel)
@[simp] theorem wne_done_late : (Str.ofString "done" = Str.ofString "late") = False := eq_false (by decide +kernel)
@[simp] theorem wne_done_gone : (Str.ofString "done" = Str.ofString "gone") = False := eq_false (by decide +kernel)
@[simp] theorem wne_late_struck : (Str.ofString "late" = Str.ofString "struck") = False := eq_false (by decide +kernel)
@[simp] theorem wne_late_came : (Str.ofString "late" = Str.ofString "came") = False := eq_false (by decide +kernel)
@[simp] theorem wne_late_queued : (Str.ofString "late" = Str.ofString "queued") = False := eq_false (by decide +kernel)
@[simp] theorem wne_late_changed : (Str.ofString "late" = Str.ofString "changed") = False := eq_false (by decide +kernel)
@[simp] theorem wne_late_took : (Str.ofString "late" = Str.ofString "took") = False := eq_false (by decide +kernel)
@[simp] theorem wne_late_finished : (Str.ofString "late" = Str.ofString "finished") = False := eq_false (by decide +kernel)
@[simp] theorem wne_late_spoiled : (Str.ofString "late" = Str.ofString "spoiled") = False := eq_false (by decide +kernel)
@[simp] theorem wne_late_done : (Str.ofString "late" = Str.ofString "done") = False := eq_false (by decide +kernel)
@[simp] theorem wne_late_gone : (Str.ofString "late" = Str.ofString "gone") = False := eq_false (by decide +kernel)
@[simp] theorem wne_gone_struck : (Str.ofString "gone" = Str.ofString "struck") = False := eq_false (by decide +kernel)
@[simp] theorem wne_gone_came : (Str.ofString "gone" = Str.ofString "came") = False := eq_false (by decide +kernel)
@[simp] theorem wne_gone_queued : (Str.ofString "gone" = Str.ofString "queued") = False := eq_false (by decide +kernel)
@[simp] theorem wne_gone_changed : (Str.ofString "gone" = Str.ofString "changed") = False := eq_false (by decide +kernel)
@[simp] theorem wne_gone_took : (Str.ofString "gone" = Str.ofString "took") = False := eq_false (by decide +kernel)
@[simp] theorem wne_gone_finished : (Str.ofString "gone" = Str.ofString "finished") = False := eq_false (by decide +kernel)
@[simp] theorem wne_gone_spoiled : (Str.ofString "gone" = Str.ofString "spoiled") = False := eq_false (by decide +kernel)
@[simp] theorem wne_gone_done : (Str.ofString "gone" = Str.ofString "done") = False := eq_false (by decide +kernel)
@[simp] theorem wne_gone_late : (Str.ofString "gone" = Str.ofString "late") = False := eq_false (by decide +kernel)
end MP

/-! text ST1 -/
set_option Elab.async false
set_option linter.all false
set_option maxRecDepth 100000
set_option maxHeartbeats 4000000
namespace MP
open PySem PySem.Spec PyProof.Rows
open L2 hiding St
/-! ### a ticket's story as a machine: 5 it has not come, 0 in the gate, 1 in a queue, 2 in work, 3 its step is over, 4 done -/
def mstep (s : Nat) (w : Str) : Option Nat :=
  if w = Str.ofString "came" then (if s = 5 then some 0 else none)
  else if w = Str.ofString "queued" then (if s = 0 ∨ s = 3 then some 1 else none)
  else if w = Str.ofString "took" then (if s = 1 then some 2 else none)
  else if w = Str.ofString "finished" ∨ w = Str.ofString "spoiled" then (if s = 2 then some 3 else none)
  else if w = Str.ofString "done" then (if s = 3 then some 4 else none)
  else some s
theorem mstep_came : mstep 5 (Str.ofString "came") = some 0 := by unfold mstep; rw [if_pos rfl, if_pos rfl]
theorem mstep_queued {s : Nat} (h : s = 0 ∨ s = 3) : mstep s (Str.ofString "queued") = some 1 := by
  unfold mstep
  rw [if_neg (by decide +kernel), if_pos rfl, if_pos h]
theorem mstep_took : mstep 1 (Str.ofString "took") = some 2 := by
  unfold mstep
  rw [if_neg (by decide +kernel), if_neg (by decide +kernel), if_pos rfl, if_pos rfl]
theorem mstep_over {w : Str} (h : w = Str.ofString "finished" ∨ w = Str.ofString "spoiled") : mstep 2 w = some 3 := by
  unfold mstep
  have h0 : w ≠ Str.ofString "came" := by rcases h with rfl | rfl <;> decide +kernel
  have h1 : w ≠ Str.ofString "queued" := by rcases h with rfl | rfl <;> decide +kernel
  have h2 : w ≠ Str.ofString "took" := by rcases h with rfl | rfl <;> decide +kernel
  rw [if_neg h0, if_neg h1, if_neg h2, if_pos h, if_pos rfl]
theorem mstep_done : mstep 3 (Str.ofString "done") = some 4 := by
  unfold mstep
  rw [if_neg (by decide +kernel), if_neg (by decide +kernel), if_neg (by decide +kernel), if_neg (by decide +kernel), if_pos rfl, if_pos rfl]
theorem mstep_same {s : Nat} {w : Str} (h : w = Str.ofString "changed" ∨ w = Str.ofString "late" ∨ w = Str.ofString "struck") : mstep s w = some s := by
  unfold mstep
  rcases h with rfl | rfl | rfl <;> rw [if_neg (by decide +kernel), if_neg (by decide +kernel), if_neg (by decide +kernel), if_neg (by decide +kernel), if_neg (by decide +kernel)]
def rowTag (r : Row) : Option Int := r.part.bind Part.tag
def mrow (t : Int) (s : Option Nat) (r : Row) : Option Nat := if rowTag r = some t then s.bind fun k => mstep k r.word else s
def mrun (s0 : Option Nat) (rows : List Row) (t : Int) : Option Nat := rows.foldl (mrow t) s0
theorem mrun_app (s0 : Option Nat) (xs ys : List Row) (t : Int) : mrun s0 (xs ++ ys) t = mrun (mrun s0 xs t) ys t := by unfold mrun; rw [List.foldl_append]
theorem mrow_other {t : Int} {s : Option Nat} {r : Row} (h : rowTag r ≠ some t) : mrow t s r = s := by unfold mrow; rw [if_neg h]
theorem mrun_other {t : Int} : ∀ (rows : List Row) (s : Option Nat), (∀ r ∈ rows, rowTag r ≠ some t) → mrun s rows t = s
  | [], s, _ => rfl
  | r :: rows, s, h => by
    show mrun (mrow t s r) rows t = s
    rw [mrow_other (h r List.mem_cons_self)]
    exact mrun_other rows s fun r' hr' => h r' (List.mem_cons_of_mem _ hr')
/-! ### where the parts are -/
abbrev PL := List (Option Int × Nat)
def quePL (q : List Part) : PL := q.map fun x => (x.tag, 1)
def holdPL (b : Bay) : PL := match b.hold with
  | some (x, left) => [(x.tag, if 0 < left then 2 else 3)]
  | none => []
def pl (m : Mo) (wait : List Part) : PL := wait.map (fun x => (x.tag, 0)) ++ (m.queues.flatMap quePL ++ m.bays.flatMap holdPL)
theorem flat_at {α β : Type} {f : α → List β} : ∀ {xs : List α} {k : Nat} {x : α}, xs[k]? = some x → (xs.flatMap f).Perm (f x ++ (xs.eraseIdx k).flatMap f)
  | [], k, x, h => by simp at h
  | a :: xs, 0, x, h => by simp at h; subst h; simp
  | a :: xs, k + 1, x, h => by
    have ih := flat_at (f := f) (xs := xs) (k := k) (x := x) (by simpa using h)
    rw [List.flatMap_cons, List.eraseIdx_cons_succ, List.flatMap_cons]
    refine (List.Perm.append_left _ ih).trans ?_
    rw [← List.append_assoc, ← List.append_assoc]
    exact List.Perm.append_right _ List.perm_append_comm
theorem flat_set {α β : Type} {f : α → List β} {xs : List α} {k : Nat} {x y : α} (h : xs[k]? = some x) : ((xs.set k y).flatMap f).Perm (f y ++ (xs.eraseIdx k).flatMap f) := by
  have hk := (List.getElem?_eq_some_iff.mp h).1
  have h2 : (xs.set k y)[k]? = some y := List.getElem?_set_self hk
  have := flat_at (f := f) h2
  rwa [List.eraseIdx_set_eq] at this
/-- each part's story is where the part is -/
structure Inv (M : Int → Option Nat) (P : PL) : Prop where
  nd : (P.map Prod.fst).Nodup
  at_ : ∀ e ∈ P, ∃ t, e.1 = some t ∧ M t = some e.2 ∧ e.2 ≤ 3
  ok : ∀ t, M t ≠ none
  all : ∀ t s, M t = some s → s ≤ 3 → (some t, s) ∈ P
theorem Inv.perm {M : Int → Option Nat} {P P' : PL} (i : Inv M P) (h : P.Perm P') : Inv M P' := ⟨(h.map _).nodup_iff.mp i.nd, fun e he => i.at_ e (h.mem_iff.mpr he), i.ok, fun t s a b => h.mem_iff.mp (i.all t s a b)⟩
theorem Inv.other {M : Int → Option Nat} {R : PL} {t : Int} {s : Nat} (i : Inv M ((some t, s) :: R)) {e : Option Int × Nat} (he : e ∈ R) {u : Int} (eu : e.1 = some u) : u ≠ t := by
  intro e0
  exact (List.nodup_cons.mp i.nd).1 (List.mem_map.mpr ⟨e, he, by rw [eu, e0]⟩)
/-- one part's row -/
theorem Inv.move {M M' : Int → Option Nat} {R : PL} {t : Int} {s s' : Nat} (i : Inv M ((some t, s) :: R)) (h1 : M' t = some s') (h2 : ∀ u, u ≠ t → M' u = M u) (h3 : s' ≤ 3) : Inv M' ((some t, s') :: R) where
  nd := i.nd
  at_ := fun e he => by
    rcases List.mem_cons.mp he with rfl | he2
    · exact ⟨t, rfl, h1, h3⟩
    · obtain ⟨u, eu, hu, hl⟩ := i.at_ e (List.mem_cons_of_mem _ he2)
      exact ⟨u, eu, by rw [h2 u (i.other he2 eu), hu], hl⟩
  ok := fun u => by
    by_cases hu : u = t
    · rw [hu, h1]; exact fun z => nomatch z
    · rw [h2 u hu]; exact i.ok u
  all := fun u k hk hl => by
    by_cases hu : u = t
    · rw [hu, h1] at hk
      cases hk
      rw [hu]
      exact List.mem_cons_self
    · rw [h2 u hu] at hk
      rcases List.mem_cons.mp (i.all u k hk hl) with h | h
      · cases h; exact absurd rfl hu
      · exact List.mem_cons_of_mem _ h
/-- it leaves -/
theorem Inv.gone {M M' : Int → Option Nat} {R : PL} {t : Int} {s : Nat} (i : Inv M ((some t, s) :: R)) (h1 : M' t = some 4) (h2 : ∀ u, u ≠ t → M' u = M u) : Inv M' R where
  nd := (List.nodup_cons.mp i.nd).2
  at_ := fun e he => by
    obtain ⟨u, eu, hu, hl⟩ := i.at_ e (List.mem_cons_of_mem _ he)
    exact ⟨u, eu, by rw [h2 u (i.other he eu), hu], hl⟩
  ok := fun u => by
    by_cases hu : u = t
    · rw [hu, h1]; exact fun z => nomatch z
    · rw [h2 u hu]; exact i.ok u
  all := fun u k hk hl => by
    by_cases hu : u = t
    · rw [hu, h1] at hk
      cases hk
      omega
    · rw [h2 u hu] at hk
      rcases List.mem_cons.mp (i.all u k hk hl) with h | h
      · cases h; exact absurd rfl hu
      · exact h
/-- it comes -/
theorem Inv.new {M M' : Int → Option Nat} {R : PL} {t : Int} (i : Inv M R) (h0 : M t = some 5) (h1 : M' t = some 0) (h2 : ∀ u, u ≠ t → M' u = M u) : Inv M' ((some t, 0) :: R) where
  nd := by
    refine List.nodup_cons.mpr ⟨fun h => ?_, i.nd⟩
    obtain ⟨e, he, ee⟩ := List.mem_map.mp h
    obtain ⟨u, eu, hu, hl⟩ := i.at_ e he
    rw [eu] at ee
    cases ee
    rw [h0] at hu
    have := Option.some.inj hu
    omega
  at_ := fun e he => by
    rcases List.mem_cons.mp he with rfl | he2
    · exact ⟨t, rfl, h1, Nat.zero_le _⟩
    · obtain ⟨u, eu, hu, hl⟩ := i.at_ e he2
      have : u ≠ t := by
        rintro rfl
        rw [h0] at hu
        have := Option.some.inj hu
        omega
      exact ⟨u, eu, by rw [h2 u this, hu], hl⟩
  ok := fun u => by
    by_cases hu : u = t
    · rw [hu, h1]; exact fun z => nomatch z
    · rw [h2 u hu]; exact i.ok u
  all := fun u k hk hl => by
    by_cases hu : u = t
    · rw [hu, h1] at hk
      cases hk
      rw [hu]
      exact List.mem_cons_self
    · rw [h2 u hu] at hk
      exact List.mem_cons_of_mem _ (i.all u k hk hl)
end MP

/-! text ST2 -/
set_option Elab.async false
set_option linter.all false
set_option maxRecDepth 100000
set_option maxHeartbeats 4000000
namespace MP
open PySem PySem.Spec PyProof.Rows
open L2 hiding St
section
variable {p : Pl} {M0 : Int → Option Nat}
def mAt (M0 : Int → Option Nat) (rows : List Row) (t : Int) : Option Nat := mrun (M0 t) rows t
theorem quePL_snoc (q : List Part) (x : Part) : quePL (q ++ [x]) = quePL q ++ [(x.tag, 1)] := by unfold quePL; simp
theorem push_pl {m : Mo} {k : Nat} {x : Part} {q : List Part} (w : List Part) (hq : m.queues[k]? = some q) : (pl (m.push k x) w).Perm ((x.tag, 1) :: pl m w) := by
  unfold pl Mo.push
  show (w.map (fun x : Part => (x.tag, 0)) ++ ((m.queues.modify k (· ++ [x])).flatMap quePL ++ m.bays.flatMap holdPL)).Perm _
  rw [modify_at hq]
  have h1 := flat_set (f := quePL) (y := q ++ [x]) hq
  have h2 := flat_at (f := quePL) hq
  rw [quePL_snoc] at h1
  have h3 : ((m.queues.set k (q ++ [x])).flatMap quePL).Perm ((x.tag, 1) :: m.queues.flatMap quePL) := by
    refine h1.trans ?_
    refine List.Perm.trans ?_ (List.Perm.cons _ h2.symm)
    rw [List.append_assoc]
    exact List.perm_middle
  refine (List.Perm.append_left _ (List.Perm.append_right _ h3)).trans ?_
  exact List.perm_middle
theorem mAt_snoc (rows : List Row) (r : Row) (t : Int) : mAt M0 (rows ++ [r]) t = mrow t (mAt M0 rows t) r := by unfold mAt; rw [mrun_app]; rfl
/-- the machine after one row of the part t -/
theorem mAt_row {rows : List Row} {r : Row} {t : Int} {s s' : Nat} (hr : rowTag r = some t) (h : mAt M0 rows t = some s) (hm : mstep s r.word = some s') : mAt M0 (rows ++ [r]) t = some s' := by
  rw [mAt_snoc]
  unfold mrow
  rw [if_pos hr, h]
  exact hm
theorem mAt_oth {rows : List Row} {r : Row} {t u : Int} (hr : rowTag r = some t) (hu : u ≠ t) : mAt M0 (rows ++ [r]) u = mAt M0 rows u := by
  rw [mAt_snoc]
  exact mrow_other fun z => hu (by rw [hr] at z; exact (Option.some.inj z).symm)
theorem enter1_inv {m : Mo} {x : Part} {xs st : List Part} (i : Inv (mAt M0 m.rows) (pl m (x :: xs ++ st))) (hk : ∃ q, m.queues[p.goal x]? = some q) : Inv (mAt M0 (p.enter1 (m, st) x).1.rows) (pl (p.enter1 (m, st) x).1 (xs ++ (p.enter1 (m, st) x).2)) := by
  obtain ⟨q, hq⟩ := hk
  have i0 : Inv (mAt M0 m.rows) ((x.tag, 0) :: pl m (xs ++ st)) := i
  obtain ⟨t, et, ht, _⟩ := i0.at_ _ List.mem_cons_self
  have et : x.tag = some t := et
  unfold Pl.enter1
  split
  · have i1 := i0
    rw [et] at i1
    have i2 := i1.move (M' := mAt M0 (m.push (p.goal x) x).rows) (s' := 1) (mAt_row et ht (mstep_queued (.inl rfl))) (fun u hu => mAt_oth et hu) (by decide)
    refine Inv.perm i2 ?_
    have := push_pl (xs ++ st) hq (x := x)
    rw [et] at this
    exact this.symm
  · refine Inv.perm i0 ?_
    unfold pl
    simp only [List.map_append, List.map_cons, List.map_nil]
    rw [← List.append_assoc (xs.map _), List.append_assoc (xs.map _ ++ st.map _)]
    exact List.perm_middle.symm
theorem set2_pl {m : Mo} {w : List Part} {k : Nat} {b b' : Bay} {q q' : List Part} {rows : List Row} (hb : m.bays[k]? = some b) (hq : m.queues[k]? = some q) : ∃ R, (pl m w).Perm (quePL q ++ (holdPL b ++ R)) ∧ (pl { bays := m.bays.set k b', queues := m.queues.set k q', rows := rows } w).Perm (quePL q' ++ (holdPL b' ++ R)) := by
  refine ⟨w.map (fun x => (x.tag, 0)) ++ ((m.queues.eraseIdx k).flatMap quePL ++ (m.bays.eraseIdx k).flatMap holdPL), ?_, ?_⟩
  · unfold pl
    have h1 := flat_at (f := quePL) hq
    have h2 := flat_at (f := holdPL) hb
    refine (List.Perm.append_left _ (h1.append h2)).trans ?_
    generalize w.map (fun x => (x.tag, 0)) = W
    generalize (m.queues.eraseIdx k).flatMap quePL = Rq
    generalize (m.bays.eraseIdx k).flatMap holdPL = Rb
    generalize quePL q = A
    generalize holdPL b = B
    rw [List.perm_iff_count]
    intro e
    simp only [List.count_append]
    omega
  · unfold pl
    have h1 := flat_set (f := quePL) (y := q') hq
    have h2 := flat_set (f := holdPL) (y := b') hb
    refine (List.Perm.append_left _ (h1.append h2)).trans ?_
    generalize w.map (fun x => (x.tag, 0)) = W
    generalize (m.queues.eraseIdx k).flatMap quePL = Rq
    generalize (m.bays.eraseIdx k).flatMap holdPL = Rb
    generalize quePL q' = A
    generalize holdPL b' = B
    rw [List.perm_iff_count]
    intro e
    simp only [List.count_append]
    omega
theorem begin1_inv (hp : PlOk p) {m : Mo} {w : List Part} {k : Nat} {qb rb : Nat} (o : MoOk p m qb rb) (i : Inv (mAt M0 m.rows) (pl m w)) : Inv (mAt M0 (p.begin1 m k).rows) (pl (p.begin1 m k) w) := by
  unfold Pl.begin1
  split
  · rename_i b x q hb hq
    split
    · rename_i c
      have hx := (o.part _ (List.mem_of_getElem? hq)).1 x List.mem_cons_self
      have wk := ((Pl.way_steps hp hx.ord).2.2 _ _ (Pl.way_at hx.step)).work
      obtain ⟨R, p1, p2⟩ := set2_pl (w := w) (b' := (p.begin k b x).1) (q' := q) (rows := m.rows ++ (p.begin k b x).2) hb hq
      have eb : holdPL b = [] := by unfold holdPL; rw [c.2]
      have eb' : holdPL (p.begin k b x).1 = [(x.tag, 2)] := by
        have : (p.begin k b x).1.hold = some (x, (p.now x).work) := by unfold Pl.begin; dsimp only; split <;> rfl
        unfold holdPL
        rw [this]
        simp only
        rw [if_pos (by omega)]
      rw [eb] at p1
      rw [eb'] at p2
      have i1 : Inv (mAt M0 m.rows) ((x.tag, 1) :: (quePL q ++ R)) := i.perm p1
      have i2 : Inv (mAt M0 (m.rows ++ (p.begin k b x).2)) ((x.tag, 2) :: (quePL q ++ R)) := by
        obtain ⟨t, et, ht, _⟩ := i1.at_ _ List.mem_cons_self
        have et : x.tag = some t := et
        rw [et] at i1 ⊢
        unfold Pl.begin
        dsimp only
        split
        · refine i1.move ?_ ?_ (by decide)
          · have a := mAt_row (M0 := M0) (rows := m.rows) (r := ⟨"changed", some x, some k, (p.row k).change⟩) (t := t) et ht (mstep_same (.inl rfl))
            have b := mAt_row (M0 := M0) (r := ⟨"took", some x, some k, (if b.kind = ⟨#[]⟩ then 0 else p.setup (p.row k).name b.kind (p.kindOf x)) + (p.row k).change⟩) (t := t) et a mstep_took
            simpa using b
          · intro u hu
            have a := mAt_oth (M0 := M0) (rows := m.rows) (r := ⟨"changed", some x, some k, (p.row k).change⟩) (t := t) et hu
            have b := mAt_oth (M0 := M0) (rows := m.rows ++ [⟨"changed", some x, some k, (p.row k).change⟩]) (r := ⟨"took", some x, some k, (if b.kind = ⟨#[]⟩ then 0 else p.setup (p.row k).name b.kind (p.kindOf x)) + (p.row k).change⟩) (t := t) et hu
            rw [a] at b
            simpa using b
        · exact i1.move (mAt_row et ht mstep_took) (fun u hu => mAt_oth et hu) (by decide)
      refine i2.perm ?_
      refine List.Perm.trans ?_ p2.symm
      exact List.perm_middle.symm
    · exact i
  · exact i
theorem set1_pl {m : Mo} {w : List Part} {k : Nat} {b b' : Bay} {rows : List Row} (hb : m.bays[k]? = some b) : ∃ R, (pl m w).Perm (holdPL b ++ R) ∧ (pl { m with bays := m.bays.set k b', rows := rows } w).Perm (holdPL b' ++ R) := by
  refine ⟨w.map (fun x => (x.tag, 0)) ++ (m.queues.flatMap quePL ++ (m.bays.eraseIdx k).flatMap holdPL), ?_, ?_⟩
  · unfold pl
    have h2 := flat_at (f := holdPL) hb
    refine (List.Perm.append_left _ (List.Perm.append_left _ h2)).trans ?_
    rw [List.perm_iff_count]
    intro e
    simp only [List.count_append]
    omega
  · unfold pl
    have h2 := flat_set (f := holdPL) (y := b') hb
    refine (List.Perm.append_left _ (List.Perm.append_left _ h2)).trans ?_
    rw [List.perm_iff_count]
    intro e
    simp only [List.count_append]
    omega
theorem work1_inv {m : Mo} {word : Str} {w : List Part} {k : Nat} (i : Inv (mAt M0 m.rows) (pl m w)) : Inv (mAt M0 (p.work1 word m k).rows) (pl (p.work1 word m k) w) := by
  unfold Pl.work1
  split
  · rename_i b hb
    obtain ⟨R, p1, p2⟩ := set1_pl (w := w) (b' := (p.work k b word).1) (rows := m.rows ++ (p.work k b word).2) hb
    have i1 := i.perm p1
    refine Inv.perm ?_ p2.symm
    unfold Pl.work
    split
    · simpa [holdPL] using i1
    split
    · simpa [holdPL] using i1
    cases hh : b.hold with
    | none =>
      unfold holdPL at i1 ⊢
      rw [hh] at i1
      simpa [hh] using i1
    | some xl =>
      obtain ⟨x, left⟩ := xl
      have eb : holdPL b = [(x.tag, if 0 < left then 2 else 3)] := by unfold holdPL; rw [hh]
      rw [eb] at i1
      simp only
      split
      · rename_i hl
        rw [if_pos hl] at i1
        have i1 : Inv (mAt M0 m.rows) ((x.tag, 2) :: R) := i1
        obtain ⟨t, et, ht, _⟩ := i1.at_ _ List.mem_cons_self
        have et : x.tag = some t := et
        split
        · split
          · rw [et] at i1
            have i2 := i1.move (M' := mAt M0 (m.rows ++ [⟨"spoiled", some x, some k, x.step⟩])) (s' := 3) (mAt_row (r := ⟨"spoiled", some x, some k, x.step⟩) et ht (mstep_over (.inr rfl))) (fun u hu => mAt_oth (r := ⟨"spoiled", some x, some k, x.step⟩) et hu) (by decide)
            simpa [holdPL, et] using i2
          · rw [et] at i1
            have i2 := i1.move (M' := mAt M0 (m.rows ++ [⟨"finished", some x, some k, x.step⟩])) (s' := 3) (mAt_row (r := ⟨"finished", some x, some k, x.step⟩) et ht (mstep_over (.inl rfl))) (fun u hu => mAt_oth (r := ⟨"finished", some x, some k, x.step⟩) et hu) (by decide)
            simpa [holdPL, et] using i2
        · rename_i h1
          have : 1 < left := by omega
          simpa [holdPL, this] using i1
      · rename_i hl
        simpa [eb] using i1
  · exact i
theorem free_pl {m : Mo} {w : List Part} {k : Nat} {b : Bay} (hb : m.bays[k]? = some b) : ∃ R, (pl m w).Perm (holdPL b ++ R) ∧ (pl (m.free k) w).Perm R := by
  obtain ⟨R, p1, p2⟩ := set1_pl (w := w) (b' := { b with hold := none }) (rows := m.rows) hb
  refine ⟨R, p1, ?_⟩
  unfold Mo.free
  rw [modify_at hb]
  exact p2
theorem out1_inv (hp : PlOk p) {m : Mo} {w : List Part} {k : Nat} {qb rb : Nat} (o : MoOk p m qb rb) (i : Inv (mAt M0 m.rows) (pl m w)) : Inv (mAt M0 (p.out1 m k).rows) (pl (p.out1 m k) w) := by
  unfold Pl.out1
  split
  · rename_i x left e
    split
    · rename_i hl
      subst hl
      cases eb : m.bays[k]? with
      | none => rw [eb] at e; cases e
      | some b =>
      rw [eb] at e
      have e : b.hold = some (x, 0) := e
      have hold := (o.hold b (List.mem_of_getElem? eb)).1
      rw [e] at hold
      have ebp : holdPL b = [(x.tag, 3)] := by unfold holdPL; rw [e]; rfl
      split
      · obtain ⟨R, p1, p2⟩ := free_pl (m := { m with rows := m.rows ++ [⟨"done", some x, some k, x.age + 1⟩] }) (w := w) eb
        rw [ebp] at p1
        have i1 : Inv (mAt M0 m.rows) ((x.tag, 3) :: R) := i.perm p1
        obtain ⟨t, et, ht, _⟩ := i1.at_ _ List.mem_cons_self
        have et : x.tag = some t := et
        rw [et] at i1
        have i2 := i1.gone (M' := mAt M0 (m.rows ++ [⟨"done", some x, some k, x.age + 1⟩])) (mAt_row (r := ⟨"done", some x, some k, x.age + 1⟩) et ht mstep_done) fun u hu => mAt_oth (r := ⟨"done", some x, some k, x.age + 1⟩) et hu
        exact i2.perm p2.symm
      · rename_i hs
        split
        · have hx : PartOk p x := ⟨hold.1, by have := hold.2.2.2; omega⟩
          have hg := goal_lt hp hx
          have hq : m.queues[p.goal x]? = some (m.queues[p.goal x]'(by rw [o.ql]; exact hg)) := List.getElem?_eq_getElem _
          obtain ⟨R, p1, p2⟩ := free_pl (m := m.push (p.goal x) x) (w := w) (k := k) (b := b) eb
          rw [ebp] at p1
          obtain ⟨R0, q1, _⟩ := free_pl (m := m) (w := w) (k := k) (b := b) eb
          rw [ebp] at q1
          have i1 : Inv (mAt M0 m.rows) ((x.tag, 3) :: R0) := i.perm q1
          obtain ⟨t, et, ht, _⟩ := i1.at_ _ List.mem_cons_self
          have et : x.tag = some t := et
          rw [et] at i1
          have i2 := i1.move (M' := mAt M0 (m.push (p.goal x) x).rows) (s' := 1) (mAt_row et ht (mstep_queued (.inr rfl))) (fun u hu => mAt_oth et hu) (by decide)
          refine i2.perm ?_
          refine List.Perm.trans ?_ p2.symm
          have h1 := push_pl w hq (x := x)
          have h2 := (h1.symm.trans p1).symm
          have h3 : ((x.tag, 3) :: R).Perm ((x.tag, 1) :: (x.tag, 3) :: R0) := h2.trans (List.Perm.cons _ q1)
          have h4 := (h3.trans (List.Perm.swap _ _ _)).cons_inv
          rw [et] at h4
          exact h4.symm
        · exact i
    · exact i
  · exact i
end
end MP

/-! text ST3 -/
set_option Elab.async false
set_option linter.all false
set_option maxRecDepth 100000
set_option maxHeartbeats 4000000
namespace MP
open PySem PySem.Spec PyProof.Rows
open L2 hiding St
section
variable {p : Pl} {M0 : Int → Option Nat}
def plS (s : Sta) : PL := pl ⟨s.bays, s.queues, []⟩ s.gate
theorem flat_modify {α β : Type} {f : α → List β} {g : α → α} (hg : ∀ x, f (g x) = f x) : ∀ (xs : List α) (i : Nat), (xs.modify i g).flatMap f = xs.flatMap f
  | [], i => by cases i <;> rfl
  | a :: xs, 0 => by simp [hg]
  | a :: xs, i + 1 => by
    rw [List.modify_succ_cons, List.flatMap_cons, List.flatMap_cons, flat_modify hg xs i]
theorem mAt_nil : mAt M0 [] = M0 := rfl
theorem mAt_free {rows : List Row} {r : Row} (h : rowTag r = none) : mAt M0 (rows ++ [r]) = mAt M0 rows := by
  funext t
  rw [mAt_snoc]
  exact mrow_other (by rw [h]; exact fun z => nomatch z)
theorem fresh_inv : ∀ (xs : List Part) (rows : List Row) (R : PL), Inv (mAt M0 rows) R → (xs.map Part.tag).Nodup → (∀ x ∈ xs, ∃ t, x.tag = some t ∧ mAt M0 rows t = some 5) → Inv (mAt M0 (rows ++ xs.map came)) (xs.map (fun x => (x.tag, 0)) ++ R)
  | [], rows, R, i, _, _ => by simpa using i
  | x :: xs, rows, R, i, nd, h => by
    obtain ⟨t, et, ht⟩ := h x List.mem_cons_self
    rw [List.map_cons, List.nodup_cons] at nd
    have i1 := i.new (M' := mAt M0 (rows ++ [came x])) ht (mAt_row (r := came x) et ht mstep_came) fun u hu => mAt_oth (r := came x) et hu
    have i2 := fresh_inv xs (rows ++ [came x]) _ i1 nd.2 fun y hy => by
      obtain ⟨u, eu, hu⟩ := h y (List.mem_cons_of_mem _ hy)
      refine ⟨u, eu, ?_⟩
      rw [mAt_oth (r := came x) et fun e => nd.1 (List.mem_map.mpr ⟨y, hy, by rw [eu, e, et]⟩)]
      exact hu
    rw [List.append_assoc] at i2
    refine Inv.perm i2 ?_
    rw [List.map_cons, et]
    exact List.perm_middle
theorem struck_pl (s : Sta) (word : Str) (w : List Part) : pl (p.struck word ⟨s.bays, s.queues, []⟩) w = pl ⟨s.bays, s.queues, []⟩ w := by
  unfold Pl.struck
  split
  · unfold pl
    dsimp only
    rw [flat_modify]
    intro b; rfl
  · rfl
theorem struck_mAt (s : Sta) (word : Str) : mAt M0 (p.struck word ⟨s.bays, s.queues, []⟩).rows = M0 := by
  unfold Pl.struck
  split
  · exact mAt_free rfl
  · rfl
theorem mo0_inv {s : Sta} {word : Str} {tags : List Int} (i : Inv M0 (plS s)) (nd : ((p.fresh s.phase tags).map Part.tag).Nodup) (hf : ∀ x ∈ p.fresh s.phase tags, ∃ t, x.tag = some t ∧ M0 t = some 5) :
    Inv (mAt M0 (p.mo0 s word tags).rows) (pl (p.mo0 s word tags) (s.gate ++ p.fresh s.phase tags)) := by
  have e1 : (p.mo0 s word tags).rows = (p.struck word ⟨s.bays, s.queues, []⟩).rows ++ (p.fresh s.phase tags).map came := rfl
  have e2 : pl (p.mo0 s word tags) (s.gate ++ p.fresh s.phase tags) = pl (p.struck word ⟨s.bays, s.queues, []⟩) (s.gate ++ p.fresh s.phase tags) := rfl
  rw [e1, e2, struck_pl]
  have := fresh_inv (M0 := M0) (p.fresh s.phase tags) (p.struck word ⟨s.bays, s.queues, []⟩).rows (plS s) (by rw [struck_mAt]; exact i) nd (by rw [struck_mAt]; exact hf)
  refine this.perm ?_
  unfold plS pl
  rw [List.map_append, ← List.append_assoc, ← List.append_assoc, ← List.append_assoc]
  exact List.Perm.append_right _ (List.Perm.append_right _ List.perm_append_comm)
theorem enters_inv (hp : PlOk p) : ∀ (xs : List Part) (m : Mo) (st : List Part) (qb rb : Nat), MoOk p m qb rb → (∀ x ∈ xs, PartOk p x) → Inv (mAt M0 m.rows) (pl m (xs ++ st)) → Inv (mAt M0 (xs.foldl p.enter1 (m, st)).1.rows) (pl (xs.foldl p.enter1 (m, st)).1 (xs.foldl p.enter1 (m, st)).2)
  | [], m, st, qb, rb, o, h, i => i
  | x :: xs, m, st, qb, rb, o, h, i => by
    rw [List.foldl_cons]
    have hx := h x List.mem_cons_self
    have hg := goal_lt hp hx
    have hq : m.queues[p.goal x]? = some (m.queues[p.goal x]'(by rw [o.ql]; exact hg)) := List.getElem?_eq_getElem _
    have i1 := enter1_inv i ⟨_, hq⟩
    have o1 := o.enter1 (st := st) hx
    generalize p.enter1 (m, st) x = r at *
    obtain ⟨m', st'⟩ := r
    exact enters_inv hp xs m' st' _ _ o1 (fun y hy => h y (List.mem_cons_of_mem _ hy)) i1
theorem begins_inv (hp : PlOk p) {m : Mo} {w : List Part} {qb rb : Nat} (o : MoOk p m qb rb) (i : Inv (mAt M0 m.rows) (pl m w)) : ∀ k, Inv (mAt M0 ((List.range k).foldl p.begin1 m).rows) (pl ((List.range k).foldl p.begin1 m) w)
  | 0 => i
  | k + 1 => by
    rw [range_fold]
    exact begin1_inv hp (begins_ok hp o k) (begins_inv hp o i k)
theorem works_inv {m : Mo} {word : Str} {w : List Part} (i : Inv (mAt M0 m.rows) (pl m w)) : ∀ k, Inv (mAt M0 ((List.range k).foldl (p.work1 word) m).rows) (pl ((List.range k).foldl (p.work1 word) m) w)
  | 0 => i
  | k + 1 => by
    rw [range_fold]
    exact work1_inv (works_inv i k)
theorem outs_inv (hp : PlOk p) {m : Mo} {w : List Part} {qb rb : Nat} (o : MoOk p m qb rb) (i : Inv (mAt M0 m.rows) (pl m w)) : ∀ k, Inv (mAt M0 (p.outs k m).rows) (pl (p.outs k m) w)
  | 0 => i
  | k + 1 => by
    have := outs_inv hp o i k
    have oo := outs_ok o k
    unfold Pl.outs at *
    rw [range_fold]
    exact out1_inv hp oo this
theorem older_hold_pl (b : Bay) : holdPL b.older = holdPL b := by
  unfold holdPL Bay.older
  cases b.hold with
  | none => rfl
  | some q => rfl
theorem closed_pl (ph : Int) (sk : List Int) (bays : List Bay) (queues : List (List Part)) (gate : List Part) (b : Bool) (rows : List Row) : plS (p.closed ph sk bays queues gate b) = pl ⟨bays, queues, rows⟩ gate := by
  unfold plS pl Pl.closed
  dsimp only
  rw [List.map_map, List.flatMap_map, List.flatMap_map]
  congr 1
  congr 1
  · congr 1
    funext q
    unfold quePL
    rw [List.map_map]
    rfl
  · congr 1
    funext b
    exact older_hold_pl b
theorem next_inv (hp : PlOk p) {s : Sta} {word : Str} {tags : List Int} {gb qb : Nat} (hs : StaOk p s gb qb) (i : Inv M0 (plS s)) (nd : ((p.fresh s.phase tags).map Part.tag).Nodup) (hf : ∀ x ∈ p.fresh s.phase tags, ∃ t, x.tag = some t ∧ M0 t = some 5) :
    Inv (mAt M0 (p.told s word tags)) (plS (p.next s word tags)) := by
  have i0 := mo0_inv (word := word) i nd hf
  have i1 : Inv (mAt M0 (p.mo1 s word tags).1.rows) (pl (p.mo1 s word tags).1 (p.mo1 s word tags).2) := enters_inv hp (s.gate ++ p.fresh s.phase tags) (p.mo0 s word tags) [] _ _ (mo0_ok hp hs) (inside_ok' hp hs) (by rw [List.append_nil]; exact i0)
  have i2 : Inv (mAt M0 (p.mo2 s word tags).rows) (pl (p.mo2 s word tags) (p.mo1 s word tags).2) := begins_inv hp (mo1_ok hp hs).1 i1 _
  have i3 : Inv (mAt M0 (p.mo3 s word tags).rows) (pl (p.mo3 s word tags) (p.mo1 s word tags).2) := works_inv i2 _
  have i4 : Inv (mAt M0 (p.mo4 s word tags).rows) (pl (p.mo4 s word tags) (p.mo1 s word tags).2) := outs_inv hp (mo3_ok hp hs) i3 _
  show Inv (mAt M0 (p.mo4 s word tags).rows) (plS (p.closed _ _ _ _ _ _))
  rw [closed_pl (rows := (p.mo4 s word tags).rows)]
  exact i4
/-! ### the log's machine -/
def lrow (t : Int) (s : Option Nat) (r : LRow) : Option Nat := if r.tick = t then s.bind fun k => mstep k r.word else s
def lmach (s : Option Nat) (rows : List LRow) (t : Int) : Option Nat := rows.foldl (lrow t) s
def lM (rows : List LRow) (t : Int) : Option Nat := if 1 ≤ t then lmach (some 5) rows t else some 5
theorem lmach_app (s : Option Nat) (xs ys : List LRow) (t : Int) : lmach s (xs ++ ys) t = lmach (lmach s xs t) ys t := by unfold lmach; rw [List.foldl_append]
theorem lmach_told {i t : Int} (h1 : 1 ≤ t) : ∀ (rs : List Row) (s : Option Nat), (∀ r ∈ rs, ∀ x, r.part = some x → Tagged x.tag) → lmach s (rs.map (p.logRow i)) t = mrun s rs t
  | [], s, _ => rfl
  | r :: rs, s, h => by
    show lmach (lrow t s (p.logRow i r)) (rs.map (p.logRow i)) t = mrun (mrow t s r) rs t
    have e : lrow t s (p.logRow i r) = mrow t s r := by
      unfold lrow mrow rowTag Pl.logRow
      dsimp only
      cases hr : r.part with
      | none =>
        rw [if_neg (by show ¬ (0 : Int) = t; omega), if_neg (by simp)]
      | some x =>
        obtain ⟨n, en, _⟩ := h r List.mem_cons_self x hr
        by_cases q : n = t
        · subst q
          rw [if_pos (by simp [tagN, en]), if_pos (by simp [en])]
        · rw [if_neg (by simpa [tagN, en] using q), if_neg (by simpa [en] using q)]
    rw [e]
    exact lmach_told h1 rs _ fun r' hr' => h r' (List.mem_cons_of_mem _ hr')
theorem lmach_late {i t : Int} : ∀ (qs : List (Int × Int)) (s : Option Nat), lmach s (qs.map (lateRow i)) t = s
  | [], s => rfl
  | q :: qs, s => by
    show lmach (lrow t s (lateRow i q)) (qs.map (lateRow i)) t = s
    have e : lrow t s (lateRow i q) = s := by
      unfold lrow
      split
      · cases s with
        | none => rfl
        | some k => exact mstep_same (.inr (.inl rfl))
      · rfl
    rw [e]
    exact lmach_late qs s
def Below (c : Int) (o : Option Int) : Prop := ∃ n, o = some n ∧ 1 ≤ n ∧ n < c
theorem StaT.mono {T T' : Option Int → Prop} {s : Sta} (h : StaT T s) (i : ∀ o, T o → T' o) : StaT T' s := ⟨fun b hb x k e => i _ (h.bay b hb x k e), fun q hq x hx => i _ (h.que q hq x hx), fun x hx => i _ (h.gate x hx)⟩
structure LogI (p : Pl) (l : LogS) : Prop where
  inv : Inv (lM l.found) (plS l.st)
  tag : StaT (Below l.coming) l.st
  far : ∀ t, l.coming ≤ t → lM l.found t = some 5
theorem start_pl : plS p.start = [] := by
  have e : ∀ (α : Type) (xs : List α) (f : α → PL), (∀ x ∈ xs, f x = []) → xs.flatMap f = [] := fun α xs f h => by
    rw [List.flatMap_eq_nil_iff]; exact h
  unfold plS pl Pl.start
  dsimp only
  rw [e _ _ _ (fun q hq => by obtain ⟨_, _, rfl⟩ := List.mem_map.mp hq; rfl), e _ _ _ (fun b hb => by obtain ⟨_, _, rfl⟩ := List.mem_map.mp hb; rfl)]
  rfl
theorem tagsAt_at {s : Sta} {c : Int} {i : Nat} (h : i < (p.coming s.phase).length) : (p.tagsAt s c)[i]? = some (c + (i : Int)) := by
  unfold Pl.tagsAt
  rw [List.getElem?_map, List.getElem?_range h]; rfl
theorem fresh_below {s : Sta} {c : Int} (hc : 1 ≤ c) : ∀ x ∈ p.fresh s.phase (p.tagsAt s c), Below (c + ((p.coming s.phase).length : Int)) x.tag ∧ ∃ n, x.tag = some n ∧ c ≤ n := by
  intro x hx
  obtain ⟨i, hi, e⟩ := List.mem_mapIdx.mp hx
  subst e
  have := tagsAt_at (p := p) (c := c) hi
  exact ⟨⟨c + i, this, by omega, by omega⟩, c + i, this, by omega⟩
theorem fresh_nodup {s : Sta} {c : Int} : ((p.fresh s.phase (p.tagsAt s c)).map Part.tag).Nodup := by
  have e : (p.fresh s.phase (p.tagsAt s c)).map Part.tag = (List.range (p.coming s.phase).length).map fun (i : Nat) => some (c + (i : Int)) := by
    refine List.ext_getElem? fun i => ?_
    unfold Pl.fresh
    rw [List.getElem?_map, List.getElem?_mapIdx, List.getElem?_map]
    by_cases hi : i < (p.coming s.phase).length
    · rw [List.getElem?_range hi, List.getElem?_eq_getElem hi]
      simp only [Option.map_some]
      congr 1
      exact tagsAt_at hi
    · rw [List.getElem?_eq_none (by omega), List.getElem?_eq_none (by simp; omega)]; rfl
  rw [e]
  refine List.Pairwise.map _ ?_ List.nodup_range
  intro a b h z
  have := Option.some.inj z
  omega
theorem logI_step (hp : PlOk p) {said : List Str} {w : Str} {l : LogS} (o : LogOk p said l) (i : LogI p l) : LogI p (p.logStep l w) := by
  have fb := fresh_below (p := p) (s := l.st) o.one
  have T2 : StaT (Below (l.coming + ((p.coming l.st.phase).length : Int))) l.st := i.tag.mono fun q ⟨n, e, h1, h2⟩ => ⟨n, e, h1, by omega⟩
  have tt := told_tag (word := w) T2 fun x hx => (fb x hx).1
  have tg : ∀ r ∈ p.told l.st w (p.tagsAt l.st l.coming), ∀ x, r.part = some x → Tagged x.tag := fun r hr x hx => let ⟨n, e, h1, _⟩ := tt r hr x hx; ⟨n, e, h1⟩
  have em : ∀ t, 1 ≤ t → lM (p.logStep l w).found t = mrun (lM l.found t) (p.told l.st w (p.tagsAt l.st l.coming)) t := by
    intro t ht
    unfold lM
    rw [if_pos ht, if_pos ht]
    show lmach (some 5) (l.found ++ _ ++ _) t = _
    rw [lmach_app, lmach_app, lmach_late, lmach_told ht _ _ tg]
  have en : lM (p.logStep l w).found = mAt (lM l.found) (p.told l.st w (p.tagsAt l.st l.coming)) := by
    funext t
    by_cases ht : 1 ≤ t
    · exact em t ht
    · unfold mAt
      rw [mrun_other]
      · unfold lM; rw [if_neg ht, if_neg ht]
      · intro r hr z
        unfold rowTag at z
        cases hx : r.part with
        | none => rw [hx] at z; cases z
        | some x =>
          rw [hx] at z
          obtain ⟨n, e, h1⟩ := tg r hr x hx
          have z : x.tag = some t := z
          rw [e] at z
          cases z
          omega
  refine ⟨?_, ?_, ?_⟩
  · rw [en]
    refine next_inv hp o.st i.inv fresh_nodup fun x hx => ?_
    obtain ⟨_, n, e, hn⟩ := fb x hx
    exact ⟨n, e, i.far n hn⟩
  · exact nextS_tag T2 fun x hx => (fb x hx).1
  · intro t ht
    have ht : l.coming + ((p.coming l.st.phase).length : Int) ≤ t := ht
    have h1 := o.one
    rw [em t (by omega), mrun_other]
    · exact i.far t (by omega)
    · intro r hr z
      unfold rowTag at z
      cases hx : r.part with
      | none => rw [hx] at z; cases z
      | some x =>
        rw [hx] at z
        obtain ⟨n, e, _, h2⟩ := tt r hr x hx
        have z : x.tag = some t := z
        rw [e] at z
        cases z
        omega
theorem logI_all (hp : PlOk p) : ∀ (n : Nat) (said : List Str), said.length = n → n ≤ 40 → LogI p (p.logAll said) := by
  intro n
  induction n with
  | zero =>
    intro said h _
    rw [List.length_eq_zero_iff.mp h]
    refine ⟨?_, ⟨?_, ?_, ?_⟩, fun t _ => ?_⟩
    · show Inv _ (plS p.start)
      rw [start_pl]
      refine ⟨.nil, fun e he => (nomatch he), fun t => ?_, fun t s hs hl => ?_⟩
      · unfold lM; split <;> exact fun z => nomatch z
      · exfalso
        unfold lM at hs
        split at hs <;> (cases hs; omega)
    · intro b hb x k e
      obtain ⟨_, _, rfl⟩ := List.mem_map.mp hb
      cases e
    · intro q hq x hx
      obtain ⟨_, _, rfl⟩ := List.mem_map.mp hq
      cases hx
    · intro x hx
      cases hx
    · unfold lM; split <;> rfl
  | succ n ih =>
    intro said h hn
    have hne : said ≠ [] := by intro e; subst e; simp at h
    have hl : said.dropLast.length = n := by simp; omega
    rw [← List.dropLast_concat_getLast hne, logAll_snoc]
    exact logI_step hp (logOk_all hp _ _ hl (by omega)) (ih _ hl (by omega))
end
end MP

/-! text ST4 -/
set_option Elab.async false
set_option linter.all false
set_option maxRecDepth 100000
set_option maxHeartbeats 4000000
namespace MP
open PySem PySem.Spec PyProof.Rows
open L2 hiding St
/-! ### visits -/
structure Visit where
  stn : Str
  q : Int
  took : Option Int
  fin : Option Int
  gone : Option Int
  sp : Bool
def optI : Option Int → D
  | none => .non
  | some i => .int i
def Visit.d (v : Visit) : D := .tup [.str v.stn, .int v.q, optI v.took, optI v.fin, optI v.gone, .bl v.sp]
def lastM (f : Visit → Visit) (vs : List Visit) : List Visit := match vs.getLast? with
  | none => vs
  | some v => vs.dropLast ++ [f v]
theorem lastM_snoc (f : Visit → Visit) (vs : List Visit) (v : Visit) : lastM f (vs ++ [v]) = vs ++ [f v] := by unfold lastM; simp
theorem lastM_nil (f : Visit → Visit) : lastM f [] = [] := rfl
def vstep (vs : List Visit) (r : LRow) : List Visit :=
  if r.word = Str.ofString "queued" then lastM (fun v => { v with gone := some r.mom }) vs ++ [⟨r.stn, r.mom, none, none, none, false⟩]
  else if r.word = Str.ofString "took" then lastM (fun v => { v with took := some r.mom }) vs
  else if r.word = Str.ofString "finished" ∨ r.word = Str.ofString "spoiled" then lastM (fun v => { v with fin := some r.mom, gone := none, sp := decide (r.word = Str.ofString "spoiled") }) vs
  else if r.word = Str.ofString "done" then lastM (fun v => { v with gone := some r.mom }) vs
  else vs
def vrun (rs : List LRow) : List Visit := rs.foldl vstep []
def srun (s : Option Nat) (rs : List LRow) : Option Nat := rs.foldl (fun s r => s.bind fun k => mstep k r.word) s
theorem srun_none (rs : List LRow) : srun none rs = none := by
  induction rs with
  | nil => rfl
  | cons r rs ih => exact ih
theorem srun_app (s : Option Nat) (xs ys : List LRow) : srun s (xs ++ ys) = srun (srun s xs) ys := by unfold srun; rw [List.foldl_append]
theorem srun_take {s : Option Nat} {rs : List LRow} (h : srun s rs ≠ none) (j : Nat) : ∃ k, srun s (rs.take j) = some k := by
  rw [← List.take_append_drop j rs, srun_app] at h
  cases e : srun s (rs.take j) with
  | none => rw [e, srun_none] at h; exact absurd rfl h
  | some k => exact ⟨k, rfl⟩
theorem srun_next {rs : List LRow} {j k k' : Nat} {r : LRow} {s : Option Nat} (hr : rs[j]? = some r) (h1 : srun s (rs.take j) = some k) (h2 : srun s (rs.take (j + 1)) = some k') : mstep k r.word = some k' := by
  rw [List.take_add_one, hr] at h2
  rw [show (some r).toList = [r] from rfl, srun_app, h1] at h2
  exact h2
theorem lmach_srun (t : Int) : ∀ (rows : List LRow) (s : Option Nat), lmach s rows t = srun s (rows.filter fun r => decide (r.tick = t))
  | [], s => rfl
  | r :: rows, s => by
    show lmach (lrow t s r) rows t = _
    rw [lmach_srun t rows]
    by_cases h : r.tick = t
    · rw [List.filter_cons_of_pos (by simpa using h)]
      unfold lrow
      rw [if_pos h]
      rfl
    · rw [List.filter_cons_of_neg (by simpa using h)]
      unfold lrow
      rw [if_neg h]
/-- what the machine's state says of the visits -/
def VI (s : Nat) (vs : List Visit) : Prop :=
  if s = 5 ∨ s = 0 then vs = []
  else if s = 1 then ∃ ini v, vs = ini ++ [v] ∧ v.took = none ∧ v.fin = none ∧ v.gone = none ∧ v.sp = false
  else if s = 2 then ∃ ini v t, vs = ini ++ [v] ∧ v.took = some t ∧ v.fin = none ∧ v.gone = none ∧ v.sp = false
  else if s = 3 then ∃ ini v t f, vs = ini ++ [v] ∧ v.took = some t ∧ v.fin = some f ∧ v.gone = none
  else ∃ ini v t f g, vs = ini ++ [v] ∧ v.took = some t ∧ v.fin = some f ∧ v.gone = some g
theorem VI_0 {s : Nat} {vs : List Visit} (h : s = 5 ∨ s = 0) : VI s vs ↔ vs = [] := by unfold VI; rw [if_pos h]
theorem VI_1 {vs : List Visit} : VI 1 vs ↔ ∃ ini v, vs = ini ++ [v] ∧ v.took = none ∧ v.fin = none ∧ v.gone = none ∧ v.sp = false := Iff.rfl
theorem VI_2 {vs : List Visit} : VI 2 vs ↔ ∃ ini v t, vs = ini ++ [v] ∧ v.took = some t ∧ v.fin = none ∧ v.gone = none ∧ v.sp = false := Iff.rfl
theorem VI_3 {vs : List Visit} : VI 3 vs ↔ ∃ ini v t f, vs = ini ++ [v] ∧ v.took = some t ∧ v.fin = some f ∧ v.gone = none := Iff.rfl
theorem VI_4 {vs : List Visit} : VI 4 vs ↔ ∃ ini v t f g, vs = ini ++ [v] ∧ v.took = some t ∧ v.fin = some f ∧ v.gone = some g := Iff.rfl
/-- the word's kinds, with what the machine asks of each -/
inductive WK (s s' : Nat) (w : Str) : Prop
  | queued : w = Str.ofString "queued" → (s = 0 ∨ s = 3) → s' = 1 → WK s s' w
  | took : w = Str.ofString "took" → s = 1 → s' = 2 → WK s s' w
  | fin : (w = Str.ofString "finished" ∨ w = Str.ofString "spoiled") → s = 2 → s' = 3 → WK s s' w
  | done : w = Str.ofString "done" → s = 3 → s' = 4 → WK s s' w
  | other : w ≠ Str.ofString "queued" → w ≠ Str.ofString "took" → w ≠ Str.ofString "finished" → w ≠ Str.ofString "spoiled" → w ≠ Str.ofString "done" → ((s = 5 ∧ s' = 0) ∨ s' = s) → WK s s' w
theorem WK_of {s s' : Nat} {w : Str} (h : mstep s w = some s') : WK s s' w := by
  unfold mstep at h
  split at h
  · rename_i hw
    split at h
    · rename_i hs
      cases h
      subst hw
      exact .other (by decide +kernel) (by decide +kernel) (by decide +kernel) (by decide +kernel) (by decide +kernel) (.inl ⟨hs, rfl⟩)
    · cases h
  split at h
  · rename_i hw
    split at h
    · rename_i hs; cases h; exact .queued hw hs rfl
    · cases h
  rename_i n1
  split at h
  · rename_i hw
    split at h
    · rename_i hs; cases h; exact .took hw hs rfl
    · cases h
  rename_i n2
  split at h
  · rename_i hw
    split at h
    · rename_i hs; cases h; exact .fin hw hs rfl
    · cases h
  rename_i n3
  split at h
  · rename_i hw
    split at h
    · rename_i hs; cases h; exact .done hw hs rfl
    · cases h
  rename_i n4
  cases h
  exact .other n1 n2 (fun z => n3 (.inl z)) (fun z => n3 (.inr z)) n4 (.inr rfl)
theorem vstep_queued {vs : List Visit} {r : LRow} (h : r.word = Str.ofString "queued") : vstep vs r = lastM (fun v => { v with gone := some r.mom }) vs ++ [⟨r.stn, r.mom, none, none, none, false⟩] := by unfold vstep; rw [if_pos h]
theorem vstep_took {vs : List Visit} {r : LRow} (h : r.word = Str.ofString "took") : vstep vs r = lastM (fun v => { v with took := some r.mom }) vs := by
  unfold vstep; rw [if_neg (by rw [h]; decide +kernel), if_pos h]
theorem vstep_fin {vs : List Visit} {r : LRow} (h : r.word = Str.ofString "finished" ∨ r.word = Str.ofString "spoiled") : vstep vs r = lastM (fun v => { v with fin := some r.mom, gone := none, sp := decide (r.word = Str.ofString "spoiled") }) vs := by
  unfold vstep
  have h1 : r.word ≠ Str.ofString "queued" := by rcases h with h | h <;> rw [h] <;> decide +kernel
  have h2 : r.word ≠ Str.ofString "took" := by rcases h with h | h <;> rw [h] <;> decide +kernel
  rw [if_neg h1, if_neg h2, if_pos h]
theorem vstep_done {vs : List Visit} {r : LRow} (h : r.word = Str.ofString "done") : vstep vs r = lastM (fun v => { v with gone := some r.mom }) vs := by
  unfold vstep; rw [if_neg (by rw [h]; decide +kernel), if_neg (by rw [h]; decide +kernel), if_neg (by rw [h]; decide +kernel), if_pos h]
theorem vstep_other {vs : List Visit} {r : LRow} (h1 : r.word ≠ Str.ofString "queued") (h2 : r.word ≠ Str.ofString "took") (h3 : r.word ≠ Str.ofString "finished") (h4 : r.word ≠ Str.ofString "spoiled") (h5 : r.word ≠ Str.ofString "done") : vstep vs r = vs := by
  unfold vstep; rw [if_neg h1, if_neg h2, if_neg (by rintro (h | h); exact h3 h; exact h4 h), if_neg h5]
theorem VI_step {s s' : Nat} {vs : List Visit} {r : LRow} (i : VI s vs) (h : mstep s r.word = some s') : VI s' (vstep vs r) := by
  cases WK_of h with
  | queued hw hs e => subst e; rw [vstep_queued hw]; exact VI_1.mpr ⟨_, _, rfl, rfl, rfl, rfl, rfl⟩
  | took hw hs e =>
    subst e hs
    obtain ⟨ini, v, rfl, a, b, c, d⟩ := VI_1.mp i
    rw [vstep_took hw, lastM_snoc]
    exact VI_2.mpr ⟨_, _, _, rfl, rfl, b, c, d⟩
  | fin hw hs e =>
    subst e hs
    obtain ⟨ini, v, t, rfl, a, b, c, d⟩ := VI_2.mp i
    rw [vstep_fin hw, lastM_snoc]
    exact VI_3.mpr ⟨_, _, _, _, rfl, a, rfl, rfl⟩
  | done hw hs e =>
    subst e hs
    obtain ⟨ini, v, t, f, rfl, a, b, c⟩ := VI_3.mp i
    rw [vstep_done hw, lastM_snoc]
    exact VI_4.mpr ⟨_, _, _, _, _, rfl, a, b, rfl⟩
  | other h1 h2 h3 h4 h5 e =>
    rw [vstep_other h1 h2 h3 h4 h5]
    rcases e with ⟨e1, e2⟩ | e
    · subst e1 e2
      exact (VI_0 (.inr rfl)).mpr ((VI_0 (.inl rfl)).mp i)
    · subst e
      exact i
theorem vrun_take {rs : List LRow} {j : Nat} {r : LRow} (h : rs[j]? = some r) : vrun (rs.take (j + 1)) = vstep (vrun (rs.take j)) r := by
  unfold vrun
  rw [List.take_add_one, h, show (some r).toList = [r] from rfl, List.foldl_append]; rfl
theorem VI_at {rs : List LRow} (h : srun (some 5) rs ≠ none) : ∀ j k, j ≤ rs.length → srun (some 5) (rs.take j) = some k → VI k (vrun (rs.take j))
  | 0, k, _, e => by
    rw [List.take_zero] at e ⊢
    cases e
    exact (VI_0 (.inl rfl)).mpr rfl
  | j + 1, k, hj, e => by
    obtain ⟨k0, e0⟩ := srun_take h j
    have hr : rs[j]? = some (rs[j]'hj) := List.getElem?_eq_getElem _
    rw [vrun_take hr]
    exact VI_step (VI_at h j k0 (by omega) e0) (srun_next hr e0 e)
/-! ### places of the last -/
theorem set_last (xs : List D) (x y : D) : (xs ++ [x]).set xs.length y = xs ++ [y] := by
  rw [List.set_append_right _ _ (Nat.le_refl _), Nat.sub_self]; rfl
theorem ixN_last (n : Nat) : ixN (n + 1) (-1) = some n := by
  unfold ixN
  rw [if_neg (by omega), if_pos (by omega)]
  congr 1
  omega
theorem set_m1 {h : Hs} {n : Nat} {xs : List D} {x y : D} (L : Ls h n (xs ++ [x])) : setD (.loc n) (.int (-1)) y h = some (h.set n (.lst (xs ++ [y]))) := by
  rw [set_loc, L.l]
  dsimp only
  rw [List.length_append, List.length_singleton, ixN_last]
  dsimp only
  rw [set_last]
theorem ix_m1 {h : Hs} {n : Nat} {xs : List D} {x : D} (L : Ls h n (xs ++ [x])) : ixO (.loc n) (.int (-1)) h = some (x, h) := by
  rw [ix_loc, L.i]
  dsimp only
  rw [atI_m1]
  simp
theorem neg_1 (h : Hs) : negO (.int 1) h = some (.int (-1), h) := rfl
end MP

/-! text ST5 -/
set_option Elab.async false
set_option linter.all false
set_option maxRecDepth 100000
set_option maxHeartbeats 4000000
namespace MP
open PySem PySem.Spec PyProof.Rows
open L2 hiding St
theorem in_ints {h : Hs} {a : Int} {xs : List Int} : inO (.int a) (.tup (xs.map D.int)) h = some (.bl (decide (a ∈ xs)), h) := by
  have key : inD h (.int a) (.tup (xs.map D.int)) = some (decide (a ∈ xs)) := by
    unfold inD
    split
    · rename_i e1 _; cases e1
    · rw [seq_tup]
      show (if _ then _ else _) = _
      rw [if_pos ⟨rfl, by simp [flatD]⟩]
      congr 1
      rw [Bool.eq_iff_iff]
      simp [eqF]
  unfold inO
  rw [key]
  rfl
theorem nin_ints {h : Hs} {a : Int} {xs : List Int} : notInO (.int a) (.tup (xs.map D.int)) h = some (.bl (!decide (a ∈ xs)), h) := by
  have := in_ints (h := h) (a := a) (xs := xs)
  unfold inO at this
  unfold notInO
  cases q : inD h (.int a) (.tup (xs.map D.int)) with
  | none => rw [q] at this; cases this
  | some b => rw [q] at this; simp at this; simp [this]
theorem in_s2 {h : Hs} {a b c : Str} : inO (.str a) (.tup [.str b, .str c]) h = some (.bl (decide (a = b ∨ a = c)), h) := by
  rw [in_strs (xs := [b, c]) rfl (fun b => by simp)]
  simp
theorem in_s4 {h : Hs} {a b c d e : Str} : inO (.str a) (.tup [.str b, .str c, .str d, .str e]) h = some (.bl (decide (a = b ∨ a = c ∨ a = d ∨ a = e)), h) := by
  rw [in_strs (xs := [b, c, d, e]) rfl (fun b => by simp)]
  simp
section
variable {h : Hs} {Q : QE}
theorem law_story_ok {n : Nat} {t : Int} {rows : List LRow} (L : Ls h n (rows.map LRow.d)) (hl : rows.length ≤ 10000000)
    (q : ∀ h', Fm [] h h' → Ls h' h.length ((rows.filter fun r => decide (r.tick = t)).map LRow.d) → Q (.loc h.length) h') : wF F_law_story [.loc n, .int t] h Q := by
  unfold F_law_story
  refine wF_runK ?_
  unfold S_law_story
  simp [L.i]
  refine wLc_pureM (fun r : LRow => decide (r.tick = t)) (fun r => r.d) (by simp; omega) (fun h' f' => (L.keep0 f').i) (fun r h1 hx f => by simp [LRow.d]) (fun h1 f1 L1 => ?_)
  exact q h1 f1 L1
theorem story_ok {t : Int} {rows : List LRow} (o : ∀ r ∈ rows, LWf r) (hl : rows.length ≤ 10000000) (ht : t ∈ (rows.filter fun r => decide (r.word = Str.ofString "came")).map LRow.tick)
    (q : ∀ h', Fm [] h h' → Q (.tup ((rows.filter fun r => decide (r.tick = t)).map LRow.d)) h') : wF F_story [.tup (rows.map LRow.d), .int t] h Q := by
  unfold F_story
  refine wF_runK ?_
  unfold S_story
  simp
  refine tickets_in_ok o hl fun h1 f1 => ?_
  refine is_whole_int ?_
  have hin : t ∈ sortI ((rows.filter fun r => decide (r.word = Str.ofString "came")).map LRow.tick) := (sortI_perm _).mem_iff.mpr ht
  simp [nin_ints, hin]
  refine wLc_pureM (fun r : LRow => decide (r.tick = t)) (fun r => r.d) (by simp; omega) (fun h' f' => trivial) (fun r h2 hx f => by simp [LRow.d]) (fun h2 f2 L2 => ?_)
  simp [L2.i]
  exact q h2 (f1.trans f2)
def pstep (v : Visit) (w : Str) (m : Int) : Visit :=
  if w = Str.ofString "took" then { v with took := some m }
  else if w = Str.ofString "finished" then { v with fin := some m }
  else if w = Str.ofString "spoiled" then { v with fin := some m, sp := true }
  else { v with gone := some m }
theorem visit_with_ok {v : Visit} {w : Str} {m : Int} (q : Q (pstep v w m).d h) : wF F_visit_with [v.d, .str w, .int m] h Q := by
  unfold F_visit_with
  refine wF_runK ?_
  unfold S_visit_with
  unfold pstep at q
  by_cases h1 : w = Str.ofString "took"
  · rw [if_pos h1] at q
    subst h1
    simp [Visit.d]
    exact q
  rw [if_neg h1] at q
  by_cases h2 : w = Str.ofString "finished"
  · rw [if_pos h2] at q
    have h1' : Str.ofString "finished" ≠ Str.ofString "took" := by decide +kernel
    subst h2
    simp [Visit.d, h1']
    exact q
  rw [if_neg h2] at q
  by_cases h3 : w = Str.ofString "spoiled"
  · rw [if_pos h3] at q
    simp [Visit.d, h1, h2, h3]
    exact q
  rw [if_neg h3] at q
  simp [Visit.d, h1, h2, h3]
  exact q
end
end MP

/-! text ST6 -/
set_option Elab.async false
set_option linter.all false
set_option maxRecDepth 100000
set_option maxHeartbeats 4000000
namespace MP
open PySem PySem.Spec PyProof.Rows
open L2 hiding St
theorem lastM_len (f : Visit → Visit) (vs : List Visit) : (lastM f vs).length = vs.length := by
  rcases List.eq_nil_or_concat vs with rfl | ⟨xs, x, rfl⟩
  · rfl
  · rw [List.concat_eq_append, lastM_snoc]; simp
theorem vstep_len (vs : List Visit) (r : LRow) : (vstep vs r).length ≤ vs.length + 1 := by
  unfold vstep
  repeat' split
  · simp [lastM_len]
  · simp [lastM_len]
  · simp [lastM_len]
  · simp [lastM_len]
  · omega
theorem vrun_len (rs : List LRow) : ∀ j, (vrun (rs.take j)).length ≤ j
  | 0 => by simp [vrun]
  | j + 1 => by
    cases h : rs[j]? with
    | none =>
      have hl := List.getElem?_eq_none_iff.mp h
      have := vrun_len rs j
      rw [List.take_of_length_le (by omega)] at this ⊢
      omega
    | some r =>
      rw [vrun_take h]
      have := vrun_len rs j
      have := vstep_len (vrun (rs.take j)) r
      omega
theorem log_names {p : Pl} (hp : PlOk p) : ∀ (n : Nat) (said : List Str), said.length = n → n ≤ 40 → ∀ r ∈ (p.logAll said).found, r.stn = ⟨#[]⟩ ∨ ∃ k, k < p.rows.length ∧ r.stn = (p.row k).name := by
  intro n
  induction n with
  | zero =>
    intro said h _ r hr
    rw [List.length_eq_zero_iff.mp h] at hr
    cases hr
  | succ n ih =>
    intro said h hn r hr
    have hne : said ≠ [] := by intro e; subst e; simp at h
    have hl : said.dropLast.length = n := by simp; omega
    rw [← List.dropLast_concat_getLast hne, logAll_snoc] at hr
    have lo := logOk_all hp _ _ hl (by omega)
    rcases List.mem_append.mp hr with hr | hr
    · rcases List.mem_append.mp hr with hr | hr
      · exact ih _ hl (by omega) r hr
      · obtain ⟨r0, h0, rfl⟩ := List.mem_map.mp hr
        have ta := told_at hp lo.st r0 h0
        unfold Pl.logRow
        dsimp only
        cases e : r0.at_ with
        | none => exact .inl rfl
        | some k => exact .inr ⟨k, ta k e, rfl⟩
    · obtain ⟨q, _, rfl⟩ := List.mem_map.mp hr
      exact .inl rfl
theorem log_stn {p : Pl} (hp : PlOk p) {said : List Str} (hn : said.length ≤ 40) : ∀ r ∈ (p.logAll said).found, PyData.strOk r.stn = true := by
  intro r hr
  rcases log_names hp _ said rfl hn r hr with e | ⟨k, hk, e⟩
  · rw [e]; decide +kernel
  · rw [e]
    exact (hp.row _ (List.mem_of_getElem? (Pl.row_at hk))).2.ok
theorem mem_lastM {f : Visit → Visit} {vs : List Visit} {v : Visit} (h : v ∈ lastM f vs) : v ∈ vs ∨ ∃ u ∈ vs, v = f u := by
  rcases List.eq_nil_or_concat vs with rfl | ⟨xs, x, rfl⟩
  · exact .inl h
  · rw [List.concat_eq_append, lastM_snoc] at h
    rcases List.mem_append.mp h with h | h
    · exact .inl (by simp [h])
    · exact .inr ⟨x, by simp, List.mem_singleton.mp h⟩
theorem vstep_stn {vs : List Visit} {r : LRow} (ok : PyData.strOk r.stn = true) (h : ∀ v ∈ vs, PyData.strOk v.stn = true) : ∀ v ∈ vstep vs r, PyData.strOk v.stn = true := by
  intro v hv
  unfold vstep at hv
  split at hv
  · rcases List.mem_append.mp hv with hv | hv
    · rcases mem_lastM hv with hv | ⟨u, hu, rfl⟩
      · exact h v hv
      · exact h u hu
    · rw [List.mem_singleton.mp hv]; exact ok
  split at hv
  · rcases mem_lastM hv with hv | ⟨u, hu, rfl⟩
    · exact h v hv
    · exact h u hu
  split at hv
  · rcases mem_lastM hv with hv | ⟨u, hu, rfl⟩
    · exact h v hv
    · exact h u hu
  split at hv
  · rcases mem_lastM hv with hv | ⟨u, hu, rfl⟩
    · exact h v hv
    · exact h u hu
  · exact h v hv
theorem vrun_stn {rs : List LRow} (ok : ∀ r ∈ rs, PyData.strOk r.stn = true) : ∀ j, ∀ v ∈ vrun (rs.take j), PyData.strOk v.stn = true
  | 0 => by simp [vrun]
  | j + 1 => by
    cases h : rs[j]? with
    | none =>
      have hl := List.getElem?_eq_none_iff.mp h
      have := vrun_stn ok j
      rw [List.take_of_length_le (by omega)] at this ⊢
      exact this
    | some r =>
      rw [vrun_take h]
      exact vstep_stn (ok r (List.mem_of_getElem? h)) (vrun_stn ok j)
theorem plain_visits {vs : List Visit} (h : ∀ v ∈ vs, PyData.strOk v.stn = true) : (vs.map Visit.d).all (plain 1) = true := by
  rw [List.all_map, List.all_eq_true]
  intro v hv
  have := h v hv
  have e : ∀ o : Option Int, plain 0 (optI o) = true := fun o => by cases o <;> rfl
  simp [Visit.d, plain, this, e]
section
variable {h : Hs} {Q : QE}
theorem law_visits_ok {n : Nat} {t : Int} {rows : List LRow} (L : Ls h n (rows.map LRow.d)) (hl : rows.length ≤ 10000000) (hm : lmach (some 5) rows t ≠ none)
    (ok : ∀ r ∈ rows, PyData.strOk r.stn = true) (q : ∀ f h', Fm [] h h' → h.length ≤ f → Ls h' f ((vrun (rows.filter fun r => decide (r.tick = t))).map Visit.d) → Q (.loc f) h') : wF F_law_visits [.loc n, .int t] h Q := by
  rw [lmach_srun] at hm
  unfold F_law_visits
  refine wF_runK ?_
  unfold S_law_visits
  simp
  have f1 : Fm [] h (h ++ [.lst []]) := (Fm.refl _ _).app _
  have L0 := Ls.new h []
  obtain ⟨f, ef⟩ : ∃ f, f = h.length := ⟨_, rfl⟩
  rw [← ef] at L0 ⊢
  generalize h ++ [AO.lst []] = h1 at *
  have L1 := L.keep0 f1
  refine law_story_ok L1 hl fun h2 f2 L2 => ?_
  have Lf2 := L0.keep0 f2
  have F2 := f1.trans f2
  have sl : (rows.filter fun r => decide (r.tick = t)).length ≤ 10000000 := Nat.le_trans (List.length_filter_le _ _) hl
  have ok : ∀ r ∈ rows.filter fun r => decide (r.tick = t), PyData.strOk r.stn = true := fun r hr => ok r (List.mem_filter.mp hr).1
  generalize (rows.filter fun r => decide (r.tick = t)) = rs at *
  have nf : h1.length ≠ f := by have := L0.lt; omega
  simp [L2.i]
  obtain ⟨J, hJ⟩ : ∃ J : Nat → Rho → Hs → Prop, ∀ j ρ hx, J j ρ hx ↔ ∃ o3 o4 o5 o6 o7, ρ = [some (.loc n), some (.int t), some (.loc f), o3, o4, o5, o6, o7] ∧ Fm [f] h2 hx ∧ Fm [] h hx ∧ Ls hx f ((vrun (rs.take j)).map Visit.d) := ⟨_, fun _ _ _ => Iff.rfl⟩
  refine wFor_inv J ((hJ _ _ _).mpr ⟨none, none, none, none, none, rfl, Fm.refl _ _, F2, by simpa [vrun] using Lf2⟩) (fun j x ρ hx hj Jj => ?_) (fun ρ hx Jj => ?_)
  · obtain ⟨o3, o4, o5, o6, o7, e, F, FF, Lv⟩ := (hJ _ _ _).mp Jj
    subst e
    rw [List.getElem?_map] at hj
    cases er : rs[j]? with
    | none => rw [er] at hj; cases hj
    | some r =>
    rw [er] at hj
    cases hj
    have jl := (List.getElem?_eq_some_iff.mp er).1
    obtain ⟨k, ek⟩ := srun_take hm j
    obtain ⟨k', ek'⟩ := srun_take hm (j + 1)
    have hst := srun_next er ek ek'
    have vi := VI_at hm j k (by omega) ek
    have nv := vrun_take er
    have vl := vrun_len rs j
    have LR := L2.keep F (by simpa using nf)
    have pl := plain_visits (vrun_stn ok j)
    refine ⟨LR.i, ?_⟩
    generalize vrun (rs.take j) = vs at *
    have hf := Lv.lt
    have fin : ∀ (o3 o4 o5 o6 o7 : Option D) (h3 : Hs) (ds : List D), Fm [] hx h3 → ds = (vstep vs r).map Visit.d → J (j + 1) [some (.loc n), some (.int t), some (.loc f), o3, o4, o5, o6, o7] (h3.set f (.lst ds)) := by
      intro o3 o4 o5 o6 o7 h3 ds f3 ed
      have L3 := Lv.keep0 f3
      refine (hJ _ _ _).mpr ⟨_, _, _, _, _, rfl, (F.then0 f3).set _ (.inl (by simp)), (FF.trans f3).set _ (.inr (by omega)), ?_⟩
      rw [nv, ← ed]
      exact L3.set _
    simp [LRow.d]
    cases WK_of hst with
    | queued hw hs e =>
      have n2 : r.word ≠ Str.ofString "took" := by rw [hw]; decide +kernel
      have n3 : r.word ≠ Str.ofString "finished" := by rw [hw]; decide +kernel
      have n4 : r.word ≠ Str.ofString "spoiled" := by rw [hw]; decide +kernel
      have n5 : r.word ≠ Str.ofString "done" := by rw [hw]; decide +kernel
      have La := Lv.app [AO.lst []]
      have Lb := Ls.new hx []
      have fa : Fm [] hx (hx ++ [AO.lst []]) := (Fm.refl _ _).app _
      simp [hw, n2, n3, n4, n5]
      rw [ne_nilL La.i Lb.i (by decide) pl]
      rcases hs with rfl | rfl
      · have := (VI_0 (.inr rfl)).mp vi
        subst this
        simp [isLst_of La, La.l, in_s2]
        exact fin _ _ _ _ _ _ _ fa (by rw [vstep_queued hw]; rfl)
      · obtain ⟨ini, v, a, b, rfl, va, vb, vc⟩ := VI_3.mp vi
        rw [List.map_append] at La
        have n1 : ini.length + 1 < 16777216 := by simp at vl; omega
        have hf1 : f < List.length hx + 1 := by omega
        simp [La.i, La.l, isLst_of La, Visit.d, ixN_last, in_s2, hf1, n1]
        exact fin _ _ _ _ _ _ _ fa (by rw [vstep_queued hw, lastM_snoc]; simp [Visit.d, optI])
    | took hw hs e =>
      subst hs
      obtain ⟨ini, v, rfl, va, vb, vc, vd⟩ := VI_1.mp vi
      rw [List.map_append] at Lv
      have hf1 : f < List.length hx + 1 := by omega
      simp [hw, Lv.i, Lv.l, isLst_of Lv, Visit.d, ixN_last, in_s2, hf, hf1]
      exact fin _ _ _ _ _ _ _ (Fm.refl _ _) (by rw [vstep_took hw, lastM_snoc]; simp [Visit.d, optI])
    | fin hw hs e =>
      subst hs
      obtain ⟨ini, v, t', rfl, va, vb, vc, vd⟩ := VI_2.mp vi
      rw [List.map_append] at Lv
      rcases hw with hw | hw
      · simp [hw, Lv.i, Lv.l, isLst_of Lv, Visit.d, ixN_last, in_s2, hf]
        exact fin _ _ _ _ _ _ _ (Fm.refl _ _) (by rw [vstep_fin (.inl hw), lastM_snoc]; simp [Visit.d, optI, hw])
      · simp [hw, Lv.i, Lv.l, isLst_of Lv, Visit.d, ixN_last, in_s2, hf]
        exact fin _ _ _ _ _ _ _ (Fm.refl _ _) (by rw [vstep_fin (.inr hw), lastM_snoc]; simp [Visit.d, optI, hw])
    | done hw hs e =>
      subst hs
      obtain ⟨ini, v, t', f', rfl, va, vb, vc⟩ := VI_3.mp vi
      rw [List.map_append] at Lv
      simp [hw, Lv.i, Lv.l, isLst_of Lv, Visit.d, ixN_last, in_s2, hf]
      exact fin _ _ _ _ _ _ _ (Fm.refl _ _) (by rw [vstep_done hw, lastM_snoc]; simp [Visit.d, optI])
    | other h1 h2 h3 h4 h5 e =>
      simp [h1, h2, h3, h4, h5, in_s2]
      refine (hJ _ _ _).mpr ⟨_, _, _, _, _, rfl, F, FF, ?_⟩
      rw [nv, vstep_other h1 h2 h3 h4 h5]
      exact Lv
  · obtain ⟨o3, o4, o5, o6, o7, e, F, FF, Lv⟩ := (hJ _ _ _).mp Jj
    subst e
    rw [List.length_map, List.take_length] at Lv
    refine ⟨(L2.keep F (by simpa using nf)).i, ?_⟩
    simp
    exact q f hx FF (by omega) Lv
end
end MP

/-! text ST7 -/
set_option Elab.async false
set_option linter.all false
set_option maxRecDepth 100000
set_option maxHeartbeats 4000000
namespace MP
open PySem PySem.Spec PyProof.Rows
open L2 hiding St
section
variable {h : Hs} {Q : QE}
theorem visits_ok {t : Int} {rows : List LRow} (o : ∀ r ∈ rows, LWf r) (ht : t ∈ (rows.filter fun r => decide (r.word = Str.ofString "came")).map LRow.tick) (hl : rows.length ≤ 10000000) (hm : lmach (some 5) rows t ≠ none)
    (ok : ∀ r ∈ rows, PyData.strOk r.stn = true) (q : ∀ h', Fm [] h h' → Q (.tup ((vrun (rows.filter fun r => decide (r.tick = t))).map Visit.d)) h') : wF F_visits [.tup (rows.map LRow.d), .int t] h Q := by
  rw [lmach_srun] at hm
  unfold F_visits
  refine wF_runK ?_
  unfold S_visits
  simp
  have f1 : Fm [] h (h ++ [.lst []]) := (Fm.refl _ _).app _
  have L0 := Ls.new h []
  obtain ⟨f, ef⟩ : ∃ f, f = h.length := ⟨_, rfl⟩
  rw [← ef] at L0 ⊢
  generalize h ++ [AO.lst []] = h1 at *
  refine story_ok o hl ht fun h2 f2 => ?_
  have Lf2 := L0.keep0 f2
  have F2 := f1.trans f2
  have sl : (rows.filter fun r => decide (r.tick = t)).length ≤ 10000000 := Nat.le_trans (List.length_filter_le _ _) hl
  have ok : ∀ r ∈ rows.filter fun r => decide (r.tick = t), PyData.strOk r.stn = true := fun r hr => ok r (List.mem_filter.mp hr).1
  generalize (rows.filter fun r => decide (r.tick = t)) = rs at *
  simp
  generalize hR : D.tup (rows.map LRow.d) = Rw at *
  obtain ⟨J, hJ⟩ : ∃ J : Nat → Rho → Hs → Prop, ∀ j ρ hx, J j ρ hx ↔ ∃ o3 o4 o5 o6 o7, ρ = [some Rw, some (.int t), some (.loc f), o3, o4, o5, o6, o7] ∧ Fm [f] h2 hx ∧ Fm [] h hx ∧ Ls hx f ((vrun (rs.take j)).map Visit.d) := ⟨_, fun _ _ _ => Iff.rfl⟩
  refine wFor_inv J ((hJ _ _ _).mpr ⟨none, none, none, none, none, rfl, Fm.refl _ _, F2, by simpa [vrun] using Lf2⟩) (fun j x ρ hx hj Jj => ?_) (fun ρ hx Jj => ?_)
  · obtain ⟨o3, o4, o5, o6, o7, e, F, FF, Lv⟩ := (hJ _ _ _).mp Jj
    subst e
    rw [List.getElem?_map] at hj
    cases er : rs[j]? with
    | none => rw [er] at hj; cases hj
    | some r =>
    rw [er] at hj
    cases hj
    have jl := (List.getElem?_eq_some_iff.mp er).1
    obtain ⟨k, ek⟩ := srun_take hm j
    obtain ⟨k', ek'⟩ := srun_take hm (j + 1)
    have hst := srun_next er ek ek'
    have vi := VI_at hm j k (by omega) ek
    have nv := vrun_take er
    have vl := vrun_len rs j
    have pl := plain_visits (vrun_stn ok j)
    refine ⟨trivial, ?_⟩
    generalize vrun (rs.take j) = vs at *
    have hf := Lv.lt
    have fin : ∀ (o3 o4 o5 o6 o7 : Option D) (h3 : Hs) (ds : List D), Fm [] hx h3 → ds = (vstep vs r).map Visit.d → J (j + 1) [some Rw, some (.int t), some (.loc f), o3, o4, o5, o6, o7] (h3.set f (.lst ds)) := by
      intro o3 o4 o5 o6 o7 h3 ds f3 ed
      have L3 := Lv.keep0 f3
      refine (hJ _ _ _).mpr ⟨_, _, _, _, _, rfl, (F.then0 f3).set _ (.inl (by simp)), (FF.trans f3).set _ (.inr (by omega)), ?_⟩
      rw [nv, ← ed]
      exact L3.set _
    simp [LRow.d]
    cases WK_of hst with
    | queued hw hs e =>
      have La := Lv.app [AO.lst []]
      have Lb := Ls.new hx []
      have fa : Fm [] hx (hx ++ [AO.lst []]) := (Fm.refl _ _).app _
      simp [hw, in_s4]
      rw [ne_nilL La.i Lb.i (by decide) pl]
      rcases hs with rfl | rfl
      · have := (VI_0 (.inr rfl)).mp vi
        subst this
        simp [isLst_of La, La.l]
        exact fin _ _ _ _ _ _ _ fa (by rw [vstep_queued hw]; rfl)
      · obtain ⟨ini, v, a, b, rfl, va, vb, vc⟩ := VI_3.mp vi
        rw [List.map_append] at La
        have n1 : ini.length + 1 < 16777216 := by simp at vl; omega
        have hf1 : f < List.length hx + 1 := by omega
        simp [La.i, La.l, isLst_of La, ixN_last, hf1, n1]
        refine visit_with_ok ?_
        simp [La.i, La.l, isLst_of La, ixN_last, hf1, n1]
        exact fin _ _ _ _ _ _ _ fa (by rw [vstep_queued hw, lastM_snoc]; simp [Visit.d, optI, pstep])
    | took hw hs e =>
      subst hs
      obtain ⟨ini, v, rfl, va, vb, vc, vd⟩ := VI_1.mp vi
      rw [List.map_append] at Lv
      simp [hw, Lv.i, in_s4]
      refine visit_with_ok ?_
      simp [Lv.l, ixN_last]
      exact fin _ _ _ _ _ _ _ (Fm.refl _ _) (by rw [vstep_took hw, lastM_snoc]; simp [pstep])
    | fin hw hs e =>
      subst hs
      obtain ⟨ini, v, t', rfl, va, vb, vc, vd⟩ := VI_2.mp vi
      rw [List.map_append] at Lv
      rcases hw with hw | hw
      · simp [hw, Lv.i, in_s4]
        refine visit_with_ok ?_
        simp [Lv.l, ixN_last]
        exact fin _ _ _ _ _ _ _ (Fm.refl _ _) (by rw [vstep_fin (.inl hw), lastM_snoc]; simp [pstep, hw, Visit.d, vc, vd])
      · simp [hw, Lv.i, in_s4]
        refine visit_with_ok ?_
        simp [Lv.l, ixN_last]
        exact fin _ _ _ _ _ _ _ (Fm.refl _ _) (by rw [vstep_fin (.inr hw), lastM_snoc]; simp [pstep, hw, Visit.d, vc, vd])
    | done hw hs e =>
      subst hs
      obtain ⟨ini, v, t', f', rfl, va, vb, vc⟩ := VI_3.mp vi
      rw [List.map_append] at Lv
      simp [hw, Lv.i, in_s4]
      refine visit_with_ok ?_
      simp [Lv.l, ixN_last]
      exact fin _ _ _ _ _ _ _ (Fm.refl _ _) (by rw [vstep_done hw, lastM_snoc]; simp [pstep])
    | other h1 h2 h3 h4 h5 e =>
      simp [h1, h2, h3, h4, h5, in_s4]
      refine (hJ _ _ _).mpr ⟨_, _, _, _, _, rfl, F, FF, ?_⟩
      rw [nv, vstep_other h1 h2 h3 h4 h5]
      exact Lv
  · obtain ⟨o3, o4, o5, o6, o7, e, F, FF, Lv⟩ := (hJ _ _ _).mp Jj
    subst e
    rw [List.length_map, List.take_length] at Lv
    refine ⟨trivial, ?_⟩
    simp [Lv.i]
    exact q hx FF
end
end MP

/-! text ST8 -/
set_option Elab.async false
set_option linter.all false
set_option maxRecDepth 100000
set_option maxHeartbeats 4000000
namespace MP
open PySem PySem.Spec PyProof.Rows
open L2 hiding St
theorem okA_visits (vs : List Visit) (hl : vs.length ≤ 1000000) : okA 11 (.tup (vs.map Visit.d)) = true := by
  show (decide _ && _) = true
  rw [Bool.and_eq_true]
  refine ⟨decide_eq_true (by simpa using hl), ?_⟩
  rw [List.all_map, List.all_eq_true]
  intro x _
  have e : ∀ o : Option Int, okA 9 (optI o) = true := fun o => by cases o <;> rfl
  simp [Visit.d, okA, e]
theorem logAll_len' {p : Pl} (hp : PlOk p) {said : List Str} (h : said.length ≤ 40) : (p.logAll said).found.length ≤ 400000 := by
  have := (logOk_all hp said.length said rfl h).len
  omega
theorem plain_ints (xs : List Int) : (xs.map D.int).all (plain 0) = true := by
  rw [List.all_map, List.all_eq_true]
  intro x _
  rfl
section
variable {p : Pl}
/-- rows of parts, and struck ones -/
def OfPart (r : Row) : Prop := r.part = none → r.word = Str.ofString "struck"
theorem told_part (s : Sta) (word : Str) (tags : List Int) : ∀ r ∈ p.told s word tags, OfPart r := by
  have some_ : ∀ {w : Str} {x : Part} {k : Option Nat} {n : Int}, OfPart ⟨w, some x, k, n⟩ := fun e => nomatch e
  have push_ : ∀ {m : Mo} {k : Nat} {x : Part}, (∀ r ∈ m.rows, OfPart r) → ∀ r ∈ (m.push k x).rows, OfPart r := fun {m k x} h r hr => by
    rcases List.mem_append.mp hr with hr | hr
    · exact h r hr
    · rw [List.mem_singleton.mp hr]; exact some_
  have h0 : ∀ r ∈ (p.mo0 s word tags).rows, OfPart r := by
    intro r hr
    rcases List.mem_append.mp hr with hr | hr
    · unfold Pl.struck at hr
      split at hr
      · simp at hr; rw [hr]; exact fun _ => rfl
      · simp at hr
    · obtain ⟨x, _, rfl⟩ := List.mem_map.mp hr
      exact some_
  have h1 : ∀ (xs : List Part) (m : Mo) (st : List Part), (∀ r ∈ m.rows, OfPart r) → ∀ r ∈ (xs.foldl p.enter1 (m, st)).1.rows, OfPart r := by
    intro xs
    induction xs with
    | nil => exact fun m st h => h
    | cons x xs ih =>
      intro m st h
      refine ih (p.enter1 (m, st) x).1 (p.enter1 (m, st) x).2 ?_
      unfold Pl.enter1
      split
      · exact push_ h
      · exact h
  have h2 : ∀ i, ∀ r ∈ ((List.range i).foldl p.begin1 (p.mo1 s word tags).1).rows, OfPart r := by
    intro i
    induction i with
    | zero => exact h1 _ _ _ h0
    | succ i ih =>
      rw [range_fold]
      intro r hr
      unfold Pl.begin1 at hr
      split at hr
      · split at hr
        · rcases List.mem_append.mp hr with hr | hr
          · exact ih r hr
          · unfold Pl.begin at hr
            dsimp only at hr
            split at hr
            · simp at hr
              rcases hr with rfl | rfl <;> exact some_
            · simp at hr
              rw [hr]; exact some_
        · exact ih r hr
      · exact ih r hr
  have h3 : ∀ i, ∀ r ∈ ((List.range i).foldl (p.work1 word) (p.mo2 s word tags)).rows, OfPart r := by
    intro i
    induction i with
    | zero => exact h2 _
    | succ i ih =>
      rw [range_fold]
      intro r hr
      unfold Pl.work1 at hr
      split at hr
      · rcases List.mem_append.mp hr with hr | hr
        · exact ih r hr
        · unfold Pl.work at hr
          split at hr
          · simp at hr
          split at hr
          · simp at hr
          split at hr
          · simp at hr
          · split at hr
            · dsimp only at hr
              split at hr
              · split at hr
                · simp at hr; rw [hr]; exact some_
                · simp at hr; rw [hr]; exact some_
              · simp at hr
            · simp at hr
      · exact ih r hr
  have h4 : ∀ i, ∀ r ∈ (p.outs i (p.mo3 s word tags)).rows, OfPart r := by
    intro i
    induction i with
    | zero => exact h3 _
    | succ i ih =>
      unfold Pl.outs
      rw [range_fold]
      intro r hr
      unfold Pl.out1 at hr
      split at hr
      · split at hr
        · split at hr
          · rcases List.mem_append.mp hr with hr | hr
            · exact ih r hr
            · rw [List.mem_singleton.mp hr]; exact some_
          · split at hr
            · exact push_ ih r hr
            · exact ih r hr
        · exact ih r hr
      · exact ih r hr
  exact h4 _
theorem log_came (hp : PlOk p) : ∀ (n : Nat) (said : List Str), said.length = n → n ≤ 40 → ∀ r ∈ (p.logAll said).found, r.word = Str.ofString "came" → 1 ≤ r.tick := by
  intro n
  induction n with
  | zero =>
    intro said h _ r hr
    rw [List.length_eq_zero_iff.mp h] at hr
    cases hr
  | succ n ih =>
    intro said h hn r hr hw
    have hne : said ≠ [] := by intro e; subst e; simp at h
    have hl : said.dropLast.length = n := by simp; omega
    rw [← List.dropLast_concat_getLast hne, logAll_snoc] at hr
    have lo := logOk_all hp _ _ hl (by omega)
    rcases List.mem_append.mp hr with hr | hr
    · rcases List.mem_append.mp hr with hr | hr
      · exact ih _ hl (by omega) r hr hw
      · obtain ⟨r0, h0, rfl⟩ := List.mem_map.mp hr
        have tp := told_part _ _ _ r0 h0
        have tt := told_tag lo.tag (fresh_tag lo.one) r0 h0
        cases e : r0.part with
        | none =>
          have := tp e
          have hw : r0.word = Str.ofString "came" := hw
          rw [this] at hw
          simp at hw
        | some x =>
          obtain ⟨m, em, hm⟩ := tt x e
          unfold Pl.logRow
          simpa [e, tagN, em] using hm
    · obtain ⟨q, _, rfl⟩ := List.mem_map.mp hr
      have hw : Str.ofString "late" = Str.ofString "came" := hw
      simp at hw
end
section
variable {h : Hs} {Q : QE} {rows : List LRow} {t : Int}
def storyOf (rows : List LRow) (t : Int) : List LRow := rows.filter fun r => decide (r.tick = t)
theorem story_ne (ht : t ∈ (rows.filter fun r => decide (r.word = Str.ofString "came")).map LRow.tick) : ∃ r rs, storyOf rows t = r :: rs := by
  obtain ⟨r, hr, e⟩ := List.mem_map.mp ht
  have : r ∈ storyOf rows t := List.mem_filter.mpr ⟨(List.mem_filter.mp hr).1, by simpa using e⟩
  cases h : storyOf rows t with
  | nil => rw [h] at this; cases this
  | cons a b => exact ⟨a, b, rfl⟩
theorem came_at_ok {r : LRow} {rs : List LRow} (o : ∀ r ∈ rows, LWf r) (hl : rows.length ≤ 10000000) (ht : t ∈ (rows.filter fun r => decide (r.word = Str.ofString "came")).map LRow.tick)
    (hs : storyOf rows t = r :: rs) (q : ∀ h', Fm [] h h' → Q (.int r.mom) h') : wF F_came_at [.tup (rows.map LRow.d), .int t] h Q := by
  unfold F_came_at
  refine wF_runK ?_
  unfold S_came_at
  simp
  refine story_ok o hl ht fun h1 f1 => ?_
  show wO (ixO (.tup ((storyOf rows t).map LRow.d)) _ _) _
  rw [hs]
  simp [LRow.d]
  exact q h1 f1
def doneOf (rs : List LRow) : List Int := (rs.filter fun r => decide (r.word = Str.ofString "done")).map LRow.mom
def firstD : List Int → D
  | [] => .non
  | x :: _ => .int x
theorem done_at_ok (o : ∀ r ∈ rows, LWf r) (hl : rows.length ≤ 10000000) (ht : t ∈ (rows.filter fun r => decide (r.word = Str.ofString "came")).map LRow.tick)
    (q : ∀ h', Fm [] h h' → Q (firstD (doneOf (storyOf rows t))) h') : wF F_done_at [.tup (rows.map LRow.d), .int t] h Q := by
  unfold F_done_at
  refine wF_runK ?_
  unfold S_done_at
  simp
  refine story_ok o hl ht fun h1 f1 => ?_
  have sl : (storyOf rows t).length ≤ 10000000 := Nat.le_trans (List.length_filter_le _ _) hl
  simp
  refine wLc_pureM (fun r : LRow => decide (r.word = Str.ofString "done")) (fun r => .int r.mom) (by have := sl; unfold storyOf at this; simp; omega) (fun h' f' => trivial) (fun r h2 hx f => by simp [LRow.d]) (fun h2 f2 L2 => ?_)
  have e : ((List.filter (fun r => decide (r.word = Str.ofString "done")) (List.filter (fun r => decide (r.tick = t)) rows)).map fun r => D.int r.mom) = (doneOf (storyOf rows t)).map D.int := by
    unfold doneOf storyOf
    rw [List.map_map]; rfl
  rw [e] at L2
  have La := L2.app [AO.lst []]
  have Lb := Ls.new h2 []
  have fa : Fm [] h2 (h2 ++ [AO.lst []]) := (Fm.refl _ _).app _
  rw [ne_nilL La.i Lb.i (by decide) (plain_ints _)]
  generalize doneOf (storyOf rows t) = xs at *
  cases xs with
  | nil =>
    simp
    exact q _ ((f1.trans f2).trans fa)
  | cons x xs =>
    simp [La.i]
    exact q _ ((f1.trans f2).trans fa)
end
end MP

/-! text SA1 -/
set_option Elab.async false
set_option linter.all false
set_option maxRecDepth 100000
set_option maxHeartbeats 4000000
namespace MP
open PySem PySem.Spec PyProof.Rows
open L2 hiding St
/-! ### tags -/
/-- all parts' tags -/
structure MoTA (T : Option Int → Int → Prop) (m : Mo) : Prop where
  bay : ∀ b ∈ m.bays, ∀ x k, b.hold = some (x, k) → T x.tag x.age
  que : ∀ q ∈ m.queues, ∀ x ∈ q, T x.tag x.age
  row : ∀ r ∈ m.rows, ∀ x, r.part = some x → T x.tag x.age
structure StaTA (T : Option Int → Int → Prop) (s : Sta) : Prop where
  bay : ∀ b ∈ s.bays, ∀ x k, b.hold = some (x, k) → T x.tag x.age
  que : ∀ q ∈ s.queues, ∀ x ∈ q, T x.tag x.age
  gate : ∀ x ∈ s.gate, T x.tag x.age
section
variable {p : Pl} {T : Option Int → Int → Prop}
theorem MoTA.push {m : Mo} {k : Nat} {x : Part} (o : MoTA T m) (hx : T x.tag x.age) : MoTA T (m.push k x) where
  bay := o.bay
  que := fun q hq => by
    rcases mem_modify hq with hq | ⟨q', hq', rfl⟩
    · exact o.que q hq
    · intro y hy
      rcases List.mem_append.mp hy with hy | hy
      · exact o.que q' (List.mem_of_getElem? hq') y hy
      · rw [List.mem_singleton.mp hy]; exact hx
  row := fun r hr y hy => by
    rcases List.mem_append.mp hr with hr | hr
    · exact o.row r hr y hy
    · rw [List.mem_singleton.mp hr] at hy; cases hy; exact hx
theorem MoTA.free {m : Mo} {k : Nat} (o : MoTA T m) : MoTA T (m.free k) where
  bay := fun b hb x j e => by
    rcases mem_modify hb with hb | ⟨b', hb', rfl⟩
    · exact o.bay b hb x j e
    · cases e
  que := o.que
  row := o.row
theorem MoTA.enter1 {m : Mo} {st : List Part} {x : Part} (o : MoTA T m) (hx : T x.tag x.age) : MoTA T (p.enter1 (m, st) x).1 := by
  unfold Pl.enter1
  split
  · exact o.push hx
  · exact o
theorem MoTA.begin1 {m : Mo} {k : Nat} (o : MoTA T m) : MoTA T (p.begin1 m k) := by
  unfold Pl.begin1
  split
  · rename_i b x q hb hq
    split
    · have hx := o.que _ (List.mem_of_getElem? hq)
      have hb2 : ∀ y j, (p.begin k b x).1.hold = some (y, j) → T y.tag y.age := by
        intro y j e
        unfold Pl.begin at e
        dsimp only at e
        split at e <;> (cases e; exact hx _ List.mem_cons_self)
      have hb3 : ∀ r ∈ (p.begin k b x).2, ∀ y, r.part = some y → T y.tag y.age := by
        intro r hr y e
        unfold Pl.begin at hr
        dsimp only at hr
        split at hr
        · simp at hr
          rcases hr with rfl | rfl <;> (cases e; exact hx _ List.mem_cons_self)
        · simp at hr
          rw [hr] at e; cases e; exact hx _ List.mem_cons_self
      exact {
        bay := fun b' hb' y j e => by
          rcases List.mem_or_eq_of_mem_set hb' with h | h
          · exact o.bay b' h y j e
          · rw [h] at e; exact hb2 y j e
        que := fun q' hq' y hy => by
          rcases List.mem_or_eq_of_mem_set hq' with h | h
          · exact o.que q' h y hy
          · rw [h] at hy; exact hx y (List.mem_cons_of_mem _ hy)
        row := fun r hr y e => by
          rcases List.mem_append.mp hr with h | h
          · exact o.row r h y e
          · exact hb3 r h y e }
    · exact o
  · exact o
theorem work_tagA {k : Nat} {b : Bay} {word : Str} (hb : ∀ x j, b.hold = some (x, j) → T x.tag x.age) : (∀ y j, (p.work k b word).1.hold = some (y, j) → T y.tag y.age) ∧ ∀ r ∈ (p.work k b word).2, ∀ y, r.part = some y → T y.tag y.age := by
  unfold Pl.work
  split
  · exact ⟨hb, by simp⟩
  split
  · exact ⟨hb, by simp⟩
  split
  · exact ⟨hb, by simp⟩
  · rename_i x left e
    have hx := hb x left e
    split
    · dsimp only
      split
      · split
        · exact ⟨fun y j e => by cases e; exact hx, fun r hr y e => by rw [List.mem_singleton.mp hr] at e; cases e; exact hx⟩
        · exact ⟨fun y j e => by cases e; exact hx, fun r hr y e => by rw [List.mem_singleton.mp hr] at e; cases e; exact hx⟩
      · exact ⟨fun y j e => by cases e; exact hx, by simp⟩
    · exact ⟨hb, by simp⟩
theorem MoTA.work1 {m : Mo} {word : Str} {k : Nat} (o : MoTA T m) : MoTA T (p.work1 word m k) := by
  unfold Pl.work1
  split
  · rename_i b hb
    have w := work_tagA (p := p) (k := k) (word := word) (o.bay b (List.mem_of_getElem? hb))
    exact {
      bay := fun b' hb' y j e => by
        rcases List.mem_or_eq_of_mem_set hb' with h | h
        · exact o.bay b' h y j e
        · rw [h] at e; exact w.1 y j e
      que := o.que
      row := fun r hr y e => by
        rcases List.mem_append.mp hr with h | h
        · exact o.row r h y e
        · exact w.2 r h y e }
  · exact o
theorem MoTA.out1 {m : Mo} {k : Nat} (o : MoTA T m) : MoTA T (p.out1 m k) := by
  unfold Pl.out1
  split
  · rename_i x left e
    split
    · cases eb : m.bays[k]? with
      | none => rw [eb] at e; cases e
      | some b =>
      rw [eb] at e
      have e : b.hold = some (x, left) := e
      have hx := o.bay b (List.mem_of_getElem? eb) x left e
      split
      · exact MoTA.free (m := { m with rows := _ }) ⟨o.bay, o.que, fun r hr y e => by
          rcases List.mem_append.mp hr with h | h
          · exact o.row r h y e
          · rw [List.mem_singleton.mp h] at e; cases e; exact hx⟩
      · split
        · exact (o.push hx).free
        · exact o
    · exact o
  · exact o
theorem mo4_tagA {s : Sta} {word : Str} {tags : List Int} (hs : StaTA T s) (hf : ∀ x ∈ p.fresh s.phase tags, T x.tag x.age) : MoTA T (p.mo4 s word tags) ∧ ∀ x ∈ (p.mo1 s word tags).2, T x.tag x.age := by
  have o0 : MoTA T (p.mo0 s word tags) := by
    have e : ∀ b ∈ (p.mo0 s word tags).bays, ∀ x k, b.hold = some (x, k) → T x.tag x.age := by
      intro b hb x k e
      unfold Pl.mo0 Pl.struck at hb
      split at hb
      · rcases mem_modify hb with hb | ⟨b', hb', rfl⟩
        · exact hs.bay b hb x k e
        · exact hs.bay b' (List.mem_of_getElem? hb') x k e
      · exact hs.bay b hb x k e
    refine ⟨e, ?_, ?_⟩
    · unfold Pl.mo0 Pl.struck
      split <;> exact hs.que
    · intro r hr y e
      rcases List.mem_append.mp hr with h | h
      · unfold Pl.struck at h
        split at h
        · simp at h; rw [h] at e; cases e
        · simp at h
      · obtain ⟨z, hz, rfl⟩ := List.mem_map.mp h
        cases e
        exact hf _ hz
  have hin : ∀ x ∈ s.gate ++ p.fresh s.phase tags, T x.tag x.age := fun x hx => by
    rcases List.mem_append.mp hx with h | h
    · exact hs.gate x h
    · exact hf x h
  have key : ∀ (xs : List Part) (m : Mo) (st : List Part), MoTA T m → (∀ x ∈ st, T x.tag x.age) → (∀ x ∈ xs, T x.tag x.age) → MoTA T (xs.foldl p.enter1 (m, st)).1 ∧ ∀ x ∈ (xs.foldl p.enter1 (m, st)).2, T x.tag x.age := by
    intro xs
    induction xs with
    | nil => exact fun m st o hst _ => ⟨o, hst⟩
    | cons x xs ih =>
      intro m st o hst hxs
      refine ih (p.enter1 (m, st) x).1 (p.enter1 (m, st) x).2 (o.enter1 (hxs x List.mem_cons_self)) ?_ fun y hy => hxs y (List.mem_cons_of_mem _ hy)
      unfold Pl.enter1
      split
      · exact hst
      · intro y hy
        rcases List.mem_append.mp hy with h | h
        · exact hst y h
        · rw [List.mem_singleton.mp h]; exact hxs x List.mem_cons_self
  obtain ⟨o1, st1⟩ := key _ _ [] o0 (by simp) hin
  refine ⟨?_, st1⟩
  have o2 : ∀ i, MoTA T ((List.range i).foldl p.begin1 (p.mo1 s word tags).1) := by
    intro i
    induction i with
    | zero => exact o1
    | succ i ih => rw [range_fold]; exact ih.begin1
  have o3 : ∀ i, MoTA T ((List.range i).foldl (p.work1 word) (p.mo2 s word tags)) := by
    intro i
    induction i with
    | zero => exact o2 _
    | succ i ih => rw [range_fold]; exact ih.work1
  have o4 : ∀ i, MoTA T (p.outs i (p.mo3 s word tags)) := by
    intro i
    induction i with
    | zero => exact o3 _
    | succ i ih => unfold Pl.outs; rw [range_fold]; exact ih.out1
  exact o4 _
theorem nextS_tagA {T' : Option Int → Int → Prop} {s : Sta} {word : Str} {tags : List Int} (up : ∀ o a, T o a → T' o (a + 1)) (hs : StaTA T s) (hf : ∀ x ∈ p.fresh s.phase tags, T x.tag x.age) : StaTA T' (p.next s word tags) := by
  obtain ⟨o, g⟩ := mo4_tagA (word := word) hs hf
  exact {
    bay := fun b hb x k e => by
      obtain ⟨b', hb', rfl⟩ := List.mem_map.mp hb
      have e : (b'.hold.map fun q => (q.1.older, q.2)) = some (x, k) := e
      cases h : b'.hold with
      | none => rw [h] at e; cases e
      | some q => rw [h] at e; cases e; exact up _ _ (o.bay b' hb' q.1 q.2 h)
    que := fun q hq x hx => by
      obtain ⟨q', hq', rfl⟩ := List.mem_map.mp hq
      obtain ⟨x', hx', rfl⟩ := List.mem_map.mp hx
      exact up _ _ (o.que q' hq' x' hx')
    gate := fun x hx => by
      obtain ⟨x', hx', rfl⟩ := List.mem_map.mp hx
      exact up _ _ (g x' hx') }
theorem told_tagA {s : Sta} {word : Str} {tags : List Int} (hs : StaTA T s) (hf : ∀ x ∈ p.fresh s.phase tags, T x.tag x.age) : ∀ r ∈ p.told s word tags, ∀ x, r.part = some x → T x.tag x.age := (mo4_tagA (word := word) hs hf).1.row
theorem start_tagA : StaTA T p.start where
  bay := fun b hb x k e => by
    obtain ⟨_, _, rfl⟩ := List.mem_map.mp hb
    cases e
  que := fun q hq x hx => by
    obtain ⟨_, _, rfl⟩ := List.mem_map.mp hq
    cases hx
  gate := by simp [Pl.start]
/-! ### rows' stations -/
end
end MP

/-! text SA2 -/
set_option Elab.async false
set_option linter.all false
set_option maxRecDepth 100000
set_option maxHeartbeats 4000000
namespace MP
open PySem PySem.Spec PyProof.Rows
open L2 hiding St
section
variable {p : Pl}
theorem told_rows {P : Row → Prop} (hs : ∀ k n, P ⟨Str.ofString "struck", none, some k, n⟩) (hc : ∀ x, P (came x)) (hq : ∀ x k n, P ⟨Str.ofString "queued", some x, some k, n⟩)
    (hb : ∀ x k n, P ⟨Str.ofString "changed", some x, some k, n⟩) (ht : ∀ x k n, P ⟨Str.ofString "took", some x, some k, n⟩) (hf : ∀ x k, P ⟨Str.ofString "finished", some x, some k, x.step⟩) (hp : ∀ x k, P ⟨Str.ofString "spoiled", some x, some k, x.step⟩)
    (hd : ∀ x k, P ⟨Str.ofString "done", some x, some k, x.age + 1⟩) (s : Sta) (word : Str) (tags : List Int) : ∀ r ∈ p.told s word tags, P r := by
  have push_ : ∀ {m : Mo} {k : Nat} {x : Part}, (∀ r ∈ m.rows, P r) → ∀ r ∈ (m.push k x).rows, P r := fun {m k x} h r hr => by
    rcases List.mem_append.mp hr with hr | hr
    · exact h r hr
    · rw [List.mem_singleton.mp hr]; exact hq _ _ _
  have h0 : ∀ r ∈ (p.mo0 s word tags).rows, P r := by
    intro r hr
    rcases List.mem_append.mp hr with hr | hr
    · unfold Pl.struck at hr
      split at hr
      · simp at hr; rw [hr]; exact hs _ _
      · simp at hr
    · obtain ⟨x, _, rfl⟩ := List.mem_map.mp hr
      exact hc x
  have h1 : ∀ (xs : List Part) (m : Mo) (st : List Part), (∀ r ∈ m.rows, P r) → ∀ r ∈ (xs.foldl p.enter1 (m, st)).1.rows, P r := by
    intro xs
    induction xs with
    | nil => exact fun m st h => h
    | cons x xs ih =>
      intro m st h
      refine ih (p.enter1 (m, st) x).1 (p.enter1 (m, st) x).2 ?_
      unfold Pl.enter1
      split
      · exact push_ h
      · exact h
  have h2 : ∀ i, ∀ r ∈ ((List.range i).foldl p.begin1 (p.mo1 s word tags).1).rows, P r := by
    intro i
    induction i with
    | zero => exact h1 _ _ _ h0
    | succ i ih =>
      rw [range_fold]
      intro r hr
      unfold Pl.begin1 at hr
      split at hr
      · split at hr
        · rcases List.mem_append.mp hr with hr | hr
          · exact ih r hr
          · unfold Pl.begin at hr
            dsimp only at hr
            split at hr
            · simp at hr
              rcases hr with rfl | rfl
              · exact hb _ _ _
              · exact ht _ _ _
            · simp at hr
              rw [hr]; exact ht _ _ _
        · exact ih r hr
      · exact ih r hr
  have h3 : ∀ i, ∀ r ∈ ((List.range i).foldl (p.work1 word) (p.mo2 s word tags)).rows, P r := by
    intro i
    induction i with
    | zero => exact h2 _
    | succ i ih =>
      rw [range_fold]
      intro r hr
      unfold Pl.work1 at hr
      split at hr
      · rcases List.mem_append.mp hr with hr | hr
        · exact ih r hr
        · unfold Pl.work at hr
          split at hr
          · simp at hr
          split at hr
          · simp at hr
          split at hr
          · simp at hr
          · split at hr
            · dsimp only at hr
              split at hr
              · split at hr
                · simp at hr; rw [hr]; exact hp _ _
                · simp at hr; rw [hr]; exact hf _ _
              · simp at hr
            · simp at hr
      · exact ih r hr
  have h4 : ∀ i, ∀ r ∈ (p.outs i (p.mo3 s word tags)).rows, P r := by
    intro i
    induction i with
    | zero => exact h3 _
    | succ i ih =>
      unfold Pl.outs
      rw [range_fold]
      intro r hr
      unfold Pl.out1 at hr
      split at hr
      · split at hr
        · split at hr
          · rcases List.mem_append.mp hr with hr | hr
            · exact ih r hr
            · rw [List.mem_singleton.mp hr]; exact hd _ _
          · split at hr
            · exact push_ ih r hr
            · exact ih r hr
        · exact ih r hr
      · exact ih r hr
  exact h4 _
theorem told_done (s : Sta) (word : Str) (tags : List Int) : ∀ r ∈ p.told s word tags, r.word = Str.ofString "done" → ∃ x, r.part = some x ∧ r.num = x.age + 1 :=
  told_rows (P := fun r => r.word = Str.ofString "done" → ∃ x, r.part = some x ∧ r.num = x.age + 1) (fun k n e => by simp at e) (fun x e => by have e : Str.ofString "came" = Str.ofString "done" := e; simp at e) (fun x k n e => by simp at e)
    (fun x k n e => by simp at e) (fun x k n e => by simp at e) (fun x k e => by simp at e) (fun x k e => by simp at e) (fun x k _ => ⟨x, rfl, rfl⟩) s word tags
theorem came_told {s : Sta} {word : Str} {tags : List Int} {x : Part} (hx : x ∈ p.fresh s.phase tags) : came x ∈ p.told s word tags := by
  have h0 : came x ∈ (p.mo0 s word tags).rows := List.mem_append_right _ (List.mem_map_of_mem hx)
  obtain ⟨X, e1, _⟩ := (enters_grows (s.gate ++ p.fresh s.phase tags) (p.mo0 s word tags) []).trans (begins_grows (p := p) (p.mo1 s word tags).1 p.rows.length)
  obtain ⟨O, e2, _⟩ := outs_grows (p := p) (p.mo3 s word tags) p.rows.length
  have e3 := works_rows (p := p) (p.mo2 s word tags) word p.rows.length
  show came x ∈ (p.outs p.rows.length (p.mo3 s word tags)).rows
  rw [e2]
  refine List.mem_append_left _ ?_
  show came x ∈ ((List.range p.rows.length).foldl (p.work1 word) (p.mo2 s word tags)).rows
  rw [e3]
  refine List.mem_append_left _ ?_
  show came x ∈ ((List.range p.rows.length).foldl p.begin1 (p.mo1 s word tags).1).rows
  rw [e1]
  exact List.mem_append_left _ h0
/-! ### how old a part is -/
def AgeT (found : List LRow) (now : Int) (o : Option Int) (a : Int) : Prop := ∃ t r rs, o = some t ∧ storyOf found t = r :: rs ∧ a = now - r.mom
theorem storyOf_app (xs ys : List LRow) (t : Int) : storyOf (xs ++ ys) t = storyOf xs t ++ storyOf ys t := by unfold storyOf; rw [List.filter_append]
structure LogA (p : Pl) (l : LogS) : Prop where
  age : StaTA (AgeT l.found l.i) l.st
  below : ∀ r ∈ l.found, r.tick < l.coming
  done : ∀ r ∈ l.found, r.word = Str.ofString "done" → ∃ r0 rs, storyOf l.found r.tick = r0 :: rs ∧ r.num = r.mom - r0.mom + 1
  mom : ∀ r ∈ l.found, r.mom < l.i
theorem inside_tag {T : Option Int → Prop} {s : Sta} (h : StaT T s) : ∀ x ∈ s.inside, T x.tag := by
  intro x hx
  unfold Sta.inside at hx
  rcases List.mem_append.mp hx with hx | hx
  · rcases List.mem_append.mp hx with hx | hx
    · exact h.gate x hx
    · obtain ⟨q, hq, hx⟩ := List.mem_flatten.mp hx
      exact h.que q hq x hx
  · obtain ⟨b, hb, e⟩ := List.mem_filterMap.mp hx
    cases hh : b.hold with
    | none => rw [hh] at e; cases e
    | some xk =>
      obtain ⟨y, k⟩ := xk
      rw [hh] at e
      cases e
      exact h.bay b hb _ _ hh
theorem logA_step (hp : PlOk p) {said : List Str} {w : Str} {l : LogS} (o : LogOk p said l) (i : LogI p l) (a : LogA p l) : LogA p (p.logStep l w) := by
  have i2 := logI_step (w := w) hp o i
  have fb := fresh_below (p := p) (s := l.st) o.one
  have T2 : StaT (Below (l.coming + ((p.coming l.st.phase).length : Int))) l.st := i.tag.mono fun q ⟨n, e, h1, h2⟩ => ⟨n, e, h1, by omega⟩
  have tt := told_tag (word := w) T2 fun x hx => (fb x hx).1
  have c1 := o.one
  -- the new rows
  have new : ∀ r ∈ (p.logStep l w).found, r ∈ l.found ∨ (r.mom = l.i ∧ r.tick < (p.logStep l w).coming ∧ ((∃ r0 ∈ p.told l.st w (p.tagsAt l.st l.coming), r = p.logRow l.i r0) ∨ r.word = Str.ofString "late")) := by
    intro r hr
    rcases List.mem_append.mp hr with hr | hr
    · rcases List.mem_append.mp hr with hr | hr
      · exact .inl hr
      · obtain ⟨r0, h0, rfl⟩ := List.mem_map.mp hr
        refine .inr ⟨rfl, ?_, .inl ⟨r0, h0, rfl⟩⟩
        show ((r0.part.map tagN).getD 0) < l.coming + ((p.coming l.st.phase).length : Int)
        cases e : r0.part with
        | none => show (0 : Int) < _; omega
        | some x =>
          obtain ⟨n, en, _, hn⟩ := tt r0 h0 x e
          simpa [tagN, en] using hn
    · obtain ⟨q, hq, rfl⟩ := List.mem_map.mp hr
      refine .inr ⟨rfl, ?_, .inr rfl⟩
      have hq := (sortP_perm _).mem_iff.mp hq
      obtain ⟨x, hx, rfl⟩ := List.mem_map.mp hq
      obtain ⟨n, en, _, hn⟩ := inside_tag i2.tag x (List.mem_filter.mp hx).1
      simpa [lateRow, tagN, en] using hn
  have old : ∀ t r rs, storyOf l.found t = r :: rs → ∃ rs', storyOf (p.logStep l w).found t = r :: rs' := by
    intro t r rs e
    show ∃ rs', storyOf (l.found ++ _ ++ _) t = r :: rs'
    rw [storyOf_app, storyOf_app, e]
    exact ⟨_, rfl⟩
  have A0 : StaTA (AgeT (p.logStep l w).found l.i) l.st := by
    have up : ∀ q z, AgeT l.found l.i q z → AgeT (p.logStep l w).found l.i q z := by
      rintro q z ⟨t, r, rs, e1, e2, e3⟩
      obtain ⟨rs', e4⟩ := old t r rs e2
      exact ⟨t, r, rs', e1, e4, e3⟩
    exact ⟨fun b hb x k e => up _ _ (a.age.bay b hb x k e), fun q hq x hx => up _ _ (a.age.que q hq x hx), fun x hx => up _ _ (a.age.gate x hx)⟩
  have A1 : ∀ x ∈ p.fresh l.st.phase (p.tagsAt l.st l.coming), AgeT (p.logStep l w).found l.i x.tag x.age := by
    intro x hx
    obtain ⟨_, n, en, hn⟩ := fb x hx
    have hc : p.logRow l.i (came x) ∈ storyOf (p.logStep l w).found n := by
      refine List.mem_filter.mpr ⟨List.mem_append_left _ (List.mem_append_right _ (List.mem_map_of_mem (came_told hx))), ?_⟩
      simp [Pl.logRow, came, tagN, en]
    have all : ∀ r ∈ storyOf (p.logStep l w).found n, r.mom = l.i := by
      intro r hr
      obtain ⟨h1, h2⟩ := List.mem_filter.mp hr
      rcases new r h1 with h | h
      · have := a.below r h
        have h2 : r.tick = n := by simpa using h2
        omega
      · exact h.1
    cases e : storyOf (p.logStep l w).found n with
    | nil => rw [e] at hc; cases hc
    | cons r rs =>
      refine ⟨n, r, rs, en, e, ?_⟩
      rw [all r (by rw [e]; exact List.mem_cons_self)]
      obtain ⟨k, hk, ee⟩ := List.mem_mapIdx.mp hx
      rw [← ee]
      show (0 : Int) = _
      omega
  refine ⟨?_, ?_, ?_, ?_⟩
  · have := nextS_tagA (p := p) (word := w) (T' := AgeT (p.logStep l w).found ((l.i : Int) + 1)) (fun q z ⟨t, r, rs, e1, e2, e3⟩ => ⟨t, r, rs, e1, e2, by omega⟩) A0 A1
    show StaTA (AgeT (p.logStep l w).found ((l.i + 1 : Nat) : Int)) (p.next l.st w (p.tagsAt l.st l.coming))
    rw [show ((l.i + 1 : Nat) : Int) = (l.i : Int) + 1 by omega]
    exact this
  · intro r hr
    rcases new r hr with h | h
    · have := a.below r h
      show r.tick < l.coming + ((p.coming l.st.phase).length : Int)
      omega
    · exact h.2.1
  · intro r hr hw
    rcases new r hr with h | ⟨h1, _, h2 | h2⟩
    · obtain ⟨r0, rs, e1, e2⟩ := a.done r h hw
      obtain ⟨rs', e3⟩ := old _ _ _ e1
      exact ⟨r0, rs', e3, e2⟩
    · obtain ⟨r0, h0, rfl⟩ := h2
      obtain ⟨x, ex, en⟩ := told_done _ _ _ r0 h0 hw
      obtain ⟨t, r1, rs, e1, e2, e3⟩ := told_tagA (word := w) A0 A1 r0 h0 x ex
      have et : (p.logRow l.i r0).tick = t := by simp [Pl.logRow, ex, tagN, e1]
      rw [et]
      refine ⟨r1, rs, e2, ?_⟩
      show r0.num = (l.i : Int) - r1.mom + 1
      omega
    · rw [h2] at hw
      simp at hw
  · intro r hr
    show r.mom < ((l.i + 1 : Nat) : Int)
    rcases new r hr with h | h
    · have := a.mom r h
      omega
    · have := h.1
      omega
theorem logA_all (hp : PlOk p) : ∀ (n : Nat) (said : List Str), said.length = n → n ≤ 40 → LogA p (p.logAll said) := by
  intro n
  induction n with
  | zero =>
    intro said h _
    rw [List.length_eq_zero_iff.mp h]
    exact ⟨start_tagA, fun r hr => (nomatch hr), fun r hr => (nomatch hr), fun r hr => (nomatch hr)⟩
  | succ n ih =>
    intro said h hn
    have hne : said ≠ [] := by intro e; subst e; simp at h
    have hl : said.dropLast.length = n := by simp; omega
    rw [← List.dropLast_concat_getLast hne, logAll_snoc]
    exact logA_step hp (logOk_all hp _ _ hl (by omega)) (logI_all hp _ _ hl (by omega)) (ih _ hl (by omega))
end
end MP

/-! text SA3 -/
set_option Elab.async false
set_option linter.all false
set_option maxRecDepth 100000
set_option maxHeartbeats 4000000
namespace MP
open PySem PySem.Spec PyProof.Rows
open L2 hiding St
/-! ### times of a ticket, counted -/
def wv (now : Int) (v : Visit) : Int := match v.took, v.fin with
  | some a, some f => f - a
  | some a, none => now - a
  | none, _ => 0
def hv (now : Int) (v : Visit) : Int := match v.fin, v.gone with
  | some f, some g => g - f
  | some f, none => now - f
  | none, _ => 0
def Wt (now : Int) (vs : List Visit) : Int := (vs.map (wv now)).sum
def Ht (now : Int) (vs : List Visit) : Int := (vs.map (hv now)).sum
def Gt (now c : Int) (vs : List Visit) : Int := match vs with
  | [] => now - c
  | v :: _ => v.q - c
def Full (v : Visit) : Prop := ∃ a f g, v.took = some a ∧ v.fin = some f ∧ v.gone = some g
def Ch : List Visit → Prop
  | [] => True
  | [_] => True
  | v :: v' :: r => (Full v ∧ v.gone = some v'.q) ∧ Ch (v' :: r)
theorem Ch_last {f : Visit → Visit} (hf : ∀ v, (f v).q = v.q) : ∀ (ini : List Visit) (v : Visit), Ch (ini ++ [v]) → Ch (ini ++ [f v])
  | [], v, _ => trivial
  | [u], v, h => by
    obtain ⟨⟨a, b⟩, c⟩ := h
    exact ⟨⟨a, by rw [hf]; exact b⟩, trivial⟩
  | u :: u' :: r, v, h => by
    obtain ⟨a, c⟩ := h
    exact ⟨a, Ch_last hf (u' :: r) v c⟩
theorem Ch_more : ∀ (ini : List Visit) (v v' : Visit), Ch (ini ++ [v]) → Full v → v.gone = some v'.q → Ch (ini ++ [v] ++ [v'])
  | [], v, v', _, h1, h2 => ⟨⟨h1, h2⟩, trivial⟩
  | [u], v, v', h, h1, h2 => ⟨h.1, ⟨h1, h2⟩, trivial⟩
  | u :: u' :: r, v, v', h, h1, h2 => ⟨h.1, Ch_more (u' :: r) v v' h.2 h1 h2⟩
theorem Ch_full : ∀ (ini : List Visit) (v : Visit), Ch (ini ++ [v]) → ∀ u ∈ ini, Full u
  | [], v, _, u, hu => nomatch hu
  | [w], v, h, u, hu => by rw [List.mem_singleton.mp hu]; exact h.1.1
  | w :: w' :: r, v, h, u, hu => by
    rcases List.mem_cons.mp hu with rfl | hu
    · exact h.1.1
    · exact Ch_full (w' :: r) v h.2 u hu
theorem sum_snoc (xs : List Int) (x : Int) : (xs ++ [x]).sum = xs.sum + x := by simp
theorem Wt_snoc (now : Int) (ini : List Visit) (v : Visit) : Wt now (ini ++ [v]) = Wt now ini + wv now v := by unfold Wt; simp
theorem Ht_snoc (now : Int) (ini : List Visit) (v : Visit) : Ht now (ini ++ [v]) = Ht now ini + hv now v := by unfold Ht; simp
theorem Wt_full {now now' : Int} {ini : List Visit} (h : ∀ u ∈ ini, Full u) : Wt now ini = Wt now' ini := by
  unfold Wt
  congr 1
  refine List.map_congr_left fun u hu => ?_
  obtain ⟨a, f, g, e1, e2, e3⟩ := h u hu
  unfold wv
  rw [e1, e2]
theorem Ht_full {now now' : Int} {ini : List Visit} (h : ∀ u ∈ ini, Full u) : Ht now ini = Ht now' ini := by
  unfold Ht
  congr 1
  refine List.map_congr_left fun u hu => ?_
  obtain ⟨a, f, g, e1, e2, e3⟩ := h u hu
  unfold hv
  rw [e2, e3]
theorem Gt_last {now c : Int} {f : Visit → Visit} (hf : ∀ v, (f v).q = v.q) (ini : List Visit) (v : Visit) : Gt now c (ini ++ [f v]) = Gt now c (ini ++ [v]) := by
  cases ini with
  | nil => show (f v).q - c = v.q - c; rw [hf]
  | cons u r => rfl
theorem Gt_more {now c : Int} (ini : List Visit) (v v' : Visit) : Gt now c (ini ++ [v] ++ [v']) = Gt now c (ini ++ [v]) := by
  cases ini <;> rfl
structure Pot (k : Nat) (c : Int) (vs : List Visit) (now g w h : Int) : Prop where
  vi : VI k vs
  ch : Ch vs
  five : k = 5 → g = 0 ∧ w = 0 ∧ h = 0
  pot : k ≠ 5 → g = Gt now c vs ∧ w = Wt now vs ∧ h = Ht now vs
theorem pot_row {k k' : Nat} {c now g w h : Int} {vs : List Visit} {r : LRow} (i : Pot k c vs now g w h) (hm : mstep k r.word = some k') (em : r.mom = now) (hc : k = 5 → c = now) : Pot k' c (vstep vs r) now g w h := by
  have vi' := VI_step i.vi hm
  cases WK_of hm with
  | queued hw hs e =>
    subst e
    rw [vstep_queued hw] at vi' ⊢
    rcases hs with rfl | rfl
    · have e0 := (VI_0 (.inr rfl)).mp i.vi
      subst e0
      obtain ⟨p1, p2, p3⟩ := i.pot (by decide)
      exact ⟨vi', trivial, fun z => absurd z (by decide), fun _ => ⟨by rw [p1]; show now - c = r.mom - c; rw [em], by rw [p2]; rfl, by rw [p3]; rfl⟩⟩
    · obtain ⟨ini, v, a, b, rfl, va, vb, vc⟩ := VI_3.mp i.vi
      obtain ⟨p1, p2, p3⟩ := i.pot (by decide)
      rw [lastM_snoc] at vi' ⊢
      have c1 := Ch_last (f := fun v => { v with gone := some r.mom }) (fun _ => rfl) ini v i.ch
      refine ⟨vi', Ch_more ini _ _ c1 ⟨a, b, r.mom, va, vb, rfl⟩ rfl, fun z => absurd z (by decide), fun _ => ⟨?_, ?_, ?_⟩⟩
      · rw [Gt_more, Gt_last (f := fun v => { v with gone := some r.mom }) (fun _ => rfl)]; exact p1
      · rw [Wt_snoc, Wt_snoc, p2, Wt_snoc]
        simp [wv, va, vb]
      · rw [Ht_snoc, Ht_snoc, p3, Ht_snoc]
        simp [hv, vb, vc, em]
  | took hw hs e =>
    subst e hs
    rw [vstep_took hw] at vi' ⊢
    obtain ⟨ini, v, rfl, va, vb, vc, vd⟩ := VI_1.mp i.vi
    obtain ⟨p1, p2, p3⟩ := i.pot (by decide)
    rw [lastM_snoc] at vi' ⊢
    refine ⟨vi', Ch_last (f := fun v => { v with took := some r.mom }) (fun _ => rfl) ini v i.ch, fun z => absurd z (by decide), fun _ => ⟨?_, ?_, ?_⟩⟩
    · rw [Gt_last (f := fun v => { v with took := some r.mom }) (fun _ => rfl)]; exact p1
    · rw [Wt_snoc, p2, Wt_snoc]
      simp [wv, va, vb, em]
    · rw [Ht_snoc, p3, Ht_snoc]
      simp [hv, vb]
  | fin hw hs e =>
    subst e hs
    rw [vstep_fin hw] at vi' ⊢
    obtain ⟨ini, v, t, rfl, va, vb, vc, vd⟩ := VI_2.mp i.vi
    obtain ⟨p1, p2, p3⟩ := i.pot (by decide)
    rw [lastM_snoc] at vi' ⊢
    refine ⟨vi', Ch_last (f := fun v => { v with fin := some r.mom, gone := none, sp := decide (r.word = Str.ofString "spoiled") }) (fun _ => rfl) ini v i.ch, fun z => absurd z (by decide), fun _ => ⟨?_, ?_, ?_⟩⟩
    · rw [Gt_last (f := fun v => { v with fin := some r.mom, gone := none, sp := decide (r.word = Str.ofString "spoiled") }) (fun _ => rfl)]; exact p1
    · rw [Wt_snoc, p2, Wt_snoc]
      simp [wv, va, vb, em]
    · rw [Ht_snoc, p3, Ht_snoc]
      simp [hv, vb, em]
  | done hw hs e =>
    subst e hs
    rw [vstep_done hw] at vi' ⊢
    obtain ⟨ini, v, t, f, rfl, va, vb, vc⟩ := VI_3.mp i.vi
    obtain ⟨p1, p2, p3⟩ := i.pot (by decide)
    rw [lastM_snoc] at vi' ⊢
    refine ⟨vi', Ch_last (f := fun v => { v with gone := some r.mom }) (fun _ => rfl) ini v i.ch, fun z => absurd z (by decide), fun _ => ⟨?_, ?_, ?_⟩⟩
    · rw [Gt_last (f := fun v => { v with gone := some r.mom }) (fun _ => rfl)]; exact p1
    · rw [Wt_snoc, p2, Wt_snoc]
      simp [wv, va, vb]
    · rw [Ht_snoc, p3, Ht_snoc]
      simp [hv, vb, vc, em]
  | other h1 h2 h3 h4 h5 e =>
    rw [vstep_other h1 h2 h3 h4 h5] at vi' ⊢
    rcases e with ⟨e1, e2⟩ | e
    · subst e1 e2
      have e0 := (VI_0 (.inl rfl)).mp i.vi
      subst e0
      obtain ⟨q1, q2, q3⟩ := i.five rfl
      refine ⟨vi', trivial, fun z => absurd z (by decide), fun _ => ⟨?_, ?_, ?_⟩⟩
      · rw [q1, hc rfl]; show (0 : Int) = now - now; omega
      · rw [q2]; rfl
      · rw [q3]; rfl
    · subst e
      exact ⟨vi', i.ch, i.five, i.pot⟩
theorem pot_rows {c now g w h : Int} : ∀ (rs : List LRow) (k k' : Nat) (vs : List Visit), Pot k c vs now g w h → srun (some k) rs = some k' → (∀ r ∈ rs, r.mom = now) → (k = 5 → rs ≠ [] → c = now) → Pot k' c (rs.foldl vstep vs) now g w h
  | [], k, k', vs, i, e, _, _ => by cases e; exact i
  | r :: rs, k, k', vs, i, e, hm, hc => by
    have e : srun ((some k).bind fun k => mstep k r.word) rs = some k' := e
    cases e1 : mstep k r.word with
    | none =>
      rw [show ((some k).bind fun k => mstep k r.word) = none from e1, srun_none] at e
      cases e
    | some k1 =>
      rw [show ((some k).bind fun k => mstep k r.word) = some k1 from e1] at e
      refine pot_rows rs k1 k' _ (pot_row i e1 (hm r List.mem_cons_self) fun z => hc z (by simp)) e (fun r' hr' => hm r' (List.mem_cons_of_mem _ hr')) fun z _ => ?_
      cases WK_of e1 with
      | queued _ _ e => omega
      | took _ _ e => omega
      | fin _ _ e => omega
      | done _ _ e => omega
      | other _ _ _ _ _ e =>
        rcases e with ⟨e1, e2⟩ | e
        · omega
        · exact hc (by omega) (by simp)
def ind (k s : Nat) : Int := if k = s then 1 else 0
theorem pot_time {k : Nat} {c now g w h : Int} {vs : List Visit} (i : Pot k c vs now g w h) : Pot k c vs (now + 1) (g + ind k 0) (w + ind k 2) (h + ind k 3) := by
  refine ⟨i.vi, i.ch, fun z => ?_, fun z => ?_⟩
  · obtain ⟨a, b, c⟩ := i.five z
    subst z
    exact ⟨by rw [a]; rfl, by rw [b]; rfl, by rw [c]; rfl⟩
  · obtain ⟨p1, p2, p3⟩ := i.pot z
    have vi := i.vi
    have ch := i.ch
    subst p1 p2 p3
    by_cases k0 : k = 0
    · subst k0
      have e0 := (VI_0 (.inr rfl)).mp vi
      subst e0
      refine ⟨?_, rfl, rfl⟩
      show now - c + 1 = now + 1 - c
      omega
    have key : ∀ ini v, vs = ini ++ [v] → wv (now + 1) v = wv now v + ind k 2 → hv (now + 1) v = hv now v + ind k 3 → Gt now c vs + ind k 0 = Gt (now + 1) c vs ∧ Wt now vs + ind k 2 = Wt (now + 1) vs ∧ Ht now vs + ind k 3 = Ht (now + 1) vs := by
      intro ini v e h1 h2
      subst e
      have hf := Ch_full ini v ch
      refine ⟨?_, ?_, ?_⟩
      · have : ind k 0 = 0 := by unfold ind; rw [if_neg k0]
        rw [this]
        cases ini <;> (show _ + 0 = _; rw [Int.add_zero]; rfl)
      · rw [Wt_snoc, Wt_snoc, h1, Wt_full (now' := now + 1) hf]; omega
      · rw [Ht_snoc, Ht_snoc, h2, Ht_full (now' := now + 1) hf]; omega
    by_cases k1 : k = 1
    · subst k1
      obtain ⟨ini, v, e, va, vb, vc, vd⟩ := VI_1.mp vi
      exact key ini v e (by simp [wv, va, ind]) (by simp [hv, vb, ind])
    by_cases k2 : k = 2
    · subst k2
      obtain ⟨ini, v, t, e, va, vb, vc, vd⟩ := VI_2.mp vi
      exact key ini v e (by simp [wv, va, vb, ind]; omega) (by simp [hv, vb, ind])
    by_cases k3 : k = 3
    · subst k3
      obtain ⟨ini, v, t, f, e, va, vb, vc⟩ := VI_3.mp vi
      exact key ini v e (by simp [wv, va, vb, ind]) (by simp [hv, vb, vc, ind]; omega)
    unfold VI at vi
    rw [if_neg (by omega), if_neg k1, if_neg k2, if_neg k3] at vi
    obtain ⟨ini, v, t, f, g, e, va, vb, vc⟩ := vi
    exact key ini v e (by simp [wv, va, vb, ind, k2]) (by simp [hv, vb, vc, ind, k3])
end MP

/-! text SA4 -/
set_option Elab.async false
set_option linter.all false
set_option maxRecDepth 100000
set_option maxHeartbeats 4000000
namespace MP
open PySem PySem.Spec PyProof.Rows
open L2 hiding St
section
variable {p : Pl}
theorem mstep_ne5 {s s' : Nat} {w : Str} (h : mstep s w = some s') (h5 : s ≠ 5) : s' ≠ 5 := by
  cases WK_of h with
  | queued _ _ e => omega
  | took _ _ e => omega
  | fin _ _ e => omega
  | done _ _ e => omega
  | other _ _ _ _ _ e => omega
theorem srun_cons {k k' : Nat} {r : LRow} {rs : List LRow} (h : srun (some k) (r :: rs) = some k') : ∃ k1, mstep k r.word = some k1 ∧ srun (some k1) rs = some k' := by
  have h : srun ((some k).bind fun k => mstep k r.word) rs = some k' := h
  cases e1 : mstep k r.word with
  | none => rw [show ((some k).bind fun k => mstep k r.word) = none from e1, srun_none] at h; cases h
  | some k1 => rw [show ((some k).bind fun k => mstep k r.word) = some k1 from e1] at h; exact ⟨k1, rfl, h⟩
theorem srun_ne5 : ∀ (rs : List LRow) (k k' : Nat), srun (some k) rs = some k' → k ≠ 5 → k' ≠ 5
  | [], k, k', h, h5 => by cases h; exact h5
  | r :: rs, k, k', h, h5 => by
    obtain ⟨k1, h1, h2⟩ := srun_cons h
    exact srun_ne5 rs k1 k' h2 (mstep_ne5 h1 h5)
theorem srun_came : ∀ (rs : List LRow) (k k' : Nat), srun (some k) rs = some k' → (∃ r ∈ rs, r.word = Str.ofString "came") → k' ≠ 5
  | [], k, k', h, ⟨r, hr, _⟩ => nomatch hr
  | r :: rs, k, k', h, ⟨r', hr, hw⟩ => by
    obtain ⟨k1, h1, h2⟩ := srun_cons h
    rcases List.mem_cons.mp hr with rfl | hr
    · rw [hw] at h1
      unfold mstep at h1
      rw [if_pos rfl] at h1
      split at h1
      · cases h1
        exact srun_ne5 rs 0 k' h2 (by decide)
      · cases h1
    · exact srun_came rs k1 k' h2 ⟨r', hr, hw⟩
theorem lM_srun {rows : List LRow} {t : Int} (ht : 1 ≤ t) : lM rows t = srun (some 5) (storyOf rows t) := by
  unfold lM
  rw [if_pos ht]
  exact lmach_srun t rows _
def Placed (M : Int → Option Nat) (o : Option Int) : Prop := ∃ n k, o = some n ∧ M n = some k ∧ k ≤ 3
theorem placed_of {M : Int → Option Nat} {s : Sta} (i : Inv M (plS s)) : StaT (Placed M) s := by
  have key : ∀ o k, (o, k) ∈ plS s → Placed M o := fun o k h => by
    obtain ⟨t, e, h1, h2⟩ := i.at_ _ h
    exact ⟨t, k, e, h1, h2⟩
  refine ⟨fun b hb x j e => ?_, fun q hq x hx => key _ 1 ?_, fun x hx => key _ 0 ?_⟩
  · refine key _ (if 0 < j then 2 else 3) (List.mem_append_right _ (List.mem_append_right _ (List.mem_flatMap.mpr ⟨b, hb, ?_⟩)))
    unfold holdPL
    rw [e]
    exact List.mem_singleton.mpr rfl
  · exact List.mem_append_right _ (List.mem_append_left _ (List.mem_flatMap.mpr ⟨q, hq, List.mem_map.mpr ⟨x, hx, rfl⟩⟩))
  · exact List.mem_append_left _ (List.mem_map.mpr ⟨x, hx, rfl⟩)
def newRows (p : Pl) (l : LogS) (w : Str) : List LRow := (p.told l.st w (p.tagsAt l.st l.coming)).map (p.logRow l.i) ++ (p.lates (p.next l.st w (p.tagsAt l.st l.coming))).map (lateRow l.i)
theorem found_new (l : LogS) (w : Str) : (p.logStep l w).found = l.found ++ newRows p l w := by
  show l.found ++ _ ++ _ = _
  rw [List.append_assoc]; rfl
theorem new_mom (l : LogS) (w : Str) : ∀ r ∈ newRows p l w, r.mom = l.i := by
  intro r hr
  rcases List.mem_append.mp hr with hr | hr
  · obtain ⟨_, _, rfl⟩ := List.mem_map.mp hr; rfl
  · obtain ⟨_, _, rfl⟩ := List.mem_map.mp hr; rfl
def LogC (l : LogS) : Prop := ∀ t, 1 ≤ t → lM l.found t = some 5 → storyOf l.found t = []
theorem logC_step (hp : PlOk p) {said : List Str} {w : Str} {l : LogS} (o : LogOk p said l) (i : LogI p l) (c : LogC l) : LogC (p.logStep l w) := by
  intro t ht h5
  have i2 := logI_step (w := w) hp o i
  have fb := fresh_below (p := p) (s := l.st) o.one
  rw [lM_srun ht, found_new, storyOf_app, srun_app, ← lM_srun ht] at h5
  rw [found_new, storyOf_app]
  cases e : lM l.found t with
  | none => exact absurd e (i.inv.ok t)
  | some k =>
  rw [e] at h5
  by_cases k5 : k = 5
  · subst k5
    have e0 := c t ht e
    rw [e0, List.nil_append]
    cases en : storyOf (newRows p l w) t with
    | nil => rfl
    | cons r rs =>
      exfalso
      have hr : r ∈ storyOf (newRows p l w) t := by rw [en]; exact List.mem_cons_self
      obtain ⟨h1, h2⟩ := List.mem_filter.mp hr
      have h2 : r.tick = t := by simpa using h2
      rcases List.mem_append.mp h1 with h1 | h1
      · obtain ⟨r0, h0, rfl⟩ := List.mem_map.mp h1
        have T0 : StaT (fun o => Placed (lM l.found) o ∨ ∃ y ∈ p.fresh l.st.phase (p.tagsAt l.st l.coming), y.tag = o) l.st := (placed_of i.inv).mono fun o h => .inl h
        have tt := told_tag (word := w) T0 (fun y hy => .inr ⟨y, hy, rfl⟩) r0 h0
        cases ex : r0.part with
        | none =>
          rw [show (p.logRow l.i r0).tick = 0 by simp [Pl.logRow, ex]] at h2
          omega
        | some x =>
          have tx := tt x ex
          rcases tx with ⟨n, k, e1, e2, e3⟩ | ⟨y, hy, ey⟩
          · have : n = t := by rw [← h2]; simp [Pl.logRow, ex, tagN, e1]
            subst this
            rw [e] at e2
            cases e2
            omega
          · obtain ⟨_, n, en', _⟩ := fb y hy
            have : n = t := by rw [← h2]; simp [Pl.logRow, ex, tagN, ← ey, en']
            subst this
            refine srun_came _ 5 5 h5 ⟨p.logRow l.i (came y), List.mem_filter.mpr ⟨List.mem_append_left _ (List.mem_map_of_mem (came_told hy)), ?_⟩, rfl⟩ rfl
            simp [Pl.logRow, came, tagN, en']
      · obtain ⟨q, hq, rfl⟩ := List.mem_map.mp h1
        have hq := (sortP_perm _).mem_iff.mp hq
        obtain ⟨x, hx, rfl⟩ := List.mem_map.mp hq
        obtain ⟨n, k, e1, e2, e3⟩ := inside_tag (placed_of i2.inv) x (List.mem_filter.mp hx).1
        have : n = t := by rw [← h2]; simp [lateRow, tagN, e1]
        subst this
        rw [lM_srun ht, found_new, storyOf_app, srun_app, ← lM_srun ht, e, h5] at e2
        cases e2
        omega
  · exact absurd rfl (srun_ne5 _ _ _ h5 k5)
theorem logC_all (hp : PlOk p) : ∀ (n : Nat) (said : List Str), said.length = n → n ≤ 40 → LogC (p.logAll said) := by
  intro n
  induction n with
  | zero =>
    intro said h _ t _ _
    rw [List.length_eq_zero_iff.mp h]
    rfl
  | succ n ih =>
    intro said h hn
    have hne : said ≠ [] := by intro e; subst e; simp at h
    have hl : said.dropLast.length = n := by simp; omega
    rw [← List.dropLast_concat_getLast hne, logAll_snoc]
    exact logC_step hp (logOk_all hp _ _ hl (by omega)) (logI_all hp _ _ hl (by omega)) (ih _ hl (by omega))
/-! ### how many moments a ticket stood so -/
def Pl.cnt (p : Pl) (said : List Str) (t : Int) (s : Nat) : Nat → Int
  | 0 => 0
  | n + 1 => p.cnt said t s n + (if lM (p.logAll (said.take (n + 1))).found t = some s then 1 else 0)
def cOf (rs : List LRow) : Int := match rs with
  | [] => 0
  | r :: _ => r.mom
theorem vrun_app (xs ys : List LRow) : vrun (xs ++ ys) = ys.foldl vstep (vrun xs) := by unfold vrun; rw [List.foldl_append]
theorem pot_all (hp : PlOk p) {said : List Str} (hs : said.length ≤ 40) {t : Int} (ht : 1 ≤ t) : ∀ n, n ≤ said.length → ∃ k, lM (p.logAll (said.take n)).found t = some k ∧
    Pot k (cOf (storyOf (p.logAll (said.take n)).found t)) (vrun (storyOf (p.logAll (said.take n)).found t)) n (p.cnt said t 0 n) (p.cnt said t 2 n) (p.cnt said t 3 n)
  | 0, _ => by
    refine ⟨5, ?_, ?_⟩
    · rw [lM_srun ht]; rfl
    · exact ⟨(VI_0 (.inl rfl)).mpr rfl, trivial, fun _ => ⟨rfl, rfl, rfl⟩, fun z => absurd rfl z⟩
  | n + 1, hn => by
    obtain ⟨k, ek, P⟩ := pot_all hp hs ht n (by omega)
    have tl : (said.take n).length = n := by simp; omega
    have lo := logOk_all hp n _ tl (by omega)
    have li := logI_all hp n _ tl (by omega)
    have lc := logC_all hp n _ tl (by omega)
    obtain ⟨w, hw⟩ : ∃ w, said[n]? = some w := ⟨_, List.getElem?_eq_getElem (by omega)⟩
    have en : p.logAll (said.take (n + 1)) = p.logStep (p.logAll (said.take n)) w := by
      rw [List.take_add_one, hw]
      exact logAll_snoc _ _
    have li2 := logI_step (w := w) hp lo li
    have lin : ((p.logAll (said.take n)).i : Int) = n := by rw [lo.i, tl]
    have nm := new_mom (p := p) (p.logAll (said.take n)) w
    have e5 : ∀ s, p.cnt said t s (n + 1) = p.cnt said t s n + (if lM (p.logStep (p.logAll (said.take n)) w).found t = some s then 1 else 0) := fun s => by rw [← en]; rfl
    rw [e5, e5, e5, en]
    generalize p.logAll (said.take n) = l at *
    cases e2 : lM (p.logStep l w).found t with
    | none => exact absurd e2 (li2.inv.ok t)
    | some k' =>
    refine ⟨k', rfl, ?_⟩
    have e3 := e2
    rw [lM_srun ht, found_new, storyOf_app, srun_app, ← lM_srun ht, ek] at e3
    rw [found_new, storyOf_app, vrun_app]
    have nm' : ∀ r ∈ storyOf (newRows p l w) t, r.mom = (n : Int) := fun r hr => by rw [nm r (List.mem_filter.mp hr).1, lin]
    have P' : Pot k (cOf (storyOf l.found t ++ storyOf (newRows p l w) t)) (vrun (storyOf l.found t)) n (p.cnt said t 0 n) (p.cnt said t 2 n) (p.cnt said t 3 n) := by
      by_cases k5 : k = 5
      · subst k5
        exact ⟨P.vi, P.ch, P.five, fun z => absurd rfl z⟩
      · cases es : storyOf l.found t with
        | nil =>
          rw [lM_srun ht, es] at ek
          cases ek
          exact absurd rfl k5
        | cons r rs => rw [es] at P; exact P
    have := pot_time (pot_rows _ _ _ _ P' e3 nm' fun z hne => ?_)
    · have ei : ∀ s : Nat, ind k' s = if some k' = some s then (1 : Int) else 0 := fun s => by
        unfold ind
        by_cases q : k' = s
        · rw [if_pos q, if_pos (by rw [q])]
        · rw [if_neg q, if_neg fun z => q (Option.some.inj z)]
      rw [ei, ei, ei] at this
      rw [show ((n + 1 : Nat) : Int) = (n : Int) + 1 by omega]
      exact this
    · subst z
      rw [lc t ht ek, List.nil_append]
      cases es : storyOf (newRows p l w) t with
      | nil => exact absurd es hne
      | cons r rs => exact nm' r (by rw [es]; exact List.mem_cons_self)
end
end MP

/-! text SA5 -/
set_option Elab.async false
set_option linter.all false
set_option maxRecDepth 100000
set_option maxHeartbeats 4000000
namespace MP
open PySem PySem.Spec PyProof.Rows
open L2 hiding St
/-! ### where the counted parts stand -/
def bh (t : Int) (b : Bay) : Nat := match b.hold with
  | some (x, left) => if tagN x = t then (if 0 < left then 2 else 3) else 0
  | none => 0
theorem nodup_fst {α β : Type} {l : List (α × β)} (h : (l.map Prod.fst).Nodup) : l.Nodup := by
  induction l with
  | nil => exact .nil
  | cons a l ih =>
    rw [List.map_cons, List.nodup_cons] at h
    exact List.nodup_cons.mpr ⟨fun z => h.1 (List.mem_map_of_mem z), ih h.2⟩
theorem pl_cnt {S : Sta} {t : Int} {s : Nat} (hs : s = 2 ∨ s = 3) (T : StaT Tagged S) : (plS S).count (some t, s) = (S.bays.filter fun b => decide (bh t b = s)).length := by
  unfold plS pl
  rw [List.count_append, List.count_append]
  have e1 : (S.gate.map fun x => (x.tag, 0)).count (some t, s) = 0 := by
    rw [List.count_eq_zero]
    intro h
    obtain ⟨x, _, e⟩ := List.mem_map.mp h
    have := congrArg Prod.snd e
    simp at this
    omega
  have e2 : (S.queues.flatMap quePL).count (some t, s) = 0 := by
    rw [List.count_eq_zero]
    intro h
    obtain ⟨q, _, h⟩ := List.mem_flatMap.mp h
    obtain ⟨x, _, e⟩ := List.mem_map.mp h
    have := congrArg Prod.snd e
    simp at this
    omega
  rw [e1, e2, Nat.zero_add, Nat.zero_add]
  have hb := T.bay
  dsimp only
  generalize S.bays = bs at *
  induction bs with
  | nil => rfl
  | cons b bs ih =>
    rw [List.flatMap_cons, List.count_append, ih fun b' hb' => hb b' (List.mem_cons_of_mem _ hb')]
    have key : (holdPL b).count (some t, s) = if bh t b = s then 1 else 0 := by
      unfold holdPL bh
      cases h : b.hold with
      | none =>
        show (0 : Nat) = if (0 : Nat) = s then 1 else 0
        rw [if_neg (by omega)]
      | some xl =>
        obtain ⟨x, left⟩ := xl
        obtain ⟨n, en, _⟩ := hb b List.mem_cons_self x left h
        have et : tagN x = n := by unfold tagN; rw [en]; rfl
        simp only [en, et]
        by_cases q : n = t
        · subst q
          by_cases z : 0 < left
          · simp [z, List.count_cons]
          · simp [z, List.count_cons]
        · have : bh t b = 0 := by unfold bh; rw [h]; simp [et, q]
          simp [q, List.count_cons]
          omega
    rw [key, List.filter_cons]
    by_cases q : bh t b = s
    · simp [q]; omega
    · simp [q]
theorem bays_cnt {M : Int → Option Nat} {S : Sta} {t : Int} {s : Nat} (hs : s = 2 ∨ s = 3) (i : Inv M (plS S)) (T : StaT Tagged S) : (S.bays.filter fun b => decide (bh t b = s)).length = if M t = some s then 1 else 0 := by
  rw [← pl_cnt hs T, (nodup_fst i.nd).count]
  by_cases h : M t = some s
  · rw [if_pos h, if_pos (i.all t s h (by omega))]
  · rw [if_neg h, if_neg]
    intro z
    obtain ⟨u, eu, hu, _⟩ := i.at_ _ z
    cases eu
    exact h hu
theorem gate_iff {M : Int → Option Nat} {S : Sta} {t : Int} (i : Inv M (plS S)) (T : StaT Tagged S) : (S.gate.filter fun x => decide (tagN x = t)) ≠ [] ↔ M t = some 0 := by
  constructor
  · intro h
    obtain ⟨x, hx⟩ := List.exists_mem_of_ne_nil _ h
    obtain ⟨h1, h2⟩ := List.mem_filter.mp hx
    obtain ⟨n, en, _⟩ := T.gate x h1
    have e : n = t := by simpa [tagN, en] using h2
    subst e
    obtain ⟨u, eu, hu, _⟩ := i.at_ (x.tag, 0) (List.mem_append_left _ (List.mem_map.mpr ⟨x, h1, rfl⟩))
    have eu : x.tag = some u := eu
    rw [en] at eu
    cases eu
    exact hu
  · intro h
    have := i.all t 0 h (by omega)
    rcases List.mem_append.mp this with h1 | h1
    · obtain ⟨x, hx, e⟩ := List.mem_map.mp h1
      have e : x.tag = some t := congrArg Prod.fst e
      exact List.ne_nil_of_mem (List.mem_filter.mpr ⟨hx, by simp [tagN, e]⟩)
    · exfalso
      rcases List.mem_append.mp h1 with h1 | h1
      · obtain ⟨q, _, h1⟩ := List.mem_flatMap.mp h1
        obtain ⟨x, _, e⟩ := List.mem_map.mp h1
        have := congrArg Prod.snd e
        simp at this
      · obtain ⟨b, _, h1⟩ := List.mem_flatMap.mp h1
        unfold holdPL at h1
        split at h1
        · have := congrArg Prod.snd (List.mem_singleton.mp h1)
          simp at this
          split at this <;> cases this
        · cases h1
/-! ### the visits of a ticket that is done -/
theorem srun_done : ∀ (rs : List LRow) (k k' : Nat), srun (some k) rs = some k' → (k = 4 ∨ ∃ r ∈ rs, r.word = Str.ofString "done") → k' = 4
  | [], k, k', h, d => by
    cases h
    rcases d with d | ⟨r, hr, _⟩
    · exact d
    · cases hr
  | r :: rs, k, k', h, d => by
    obtain ⟨k1, h1, h2⟩ := srun_cons h
    refine srun_done rs k1 k' h2 ?_
    rcases d with d | ⟨r', hr, hw⟩
    · left
      subst d
      cases WK_of h1 with
      | queued _ e _ => omega
      | took _ e _ => omega
      | fin _ e _ => omega
      | done _ e _ => omega
      | other _ _ _ _ _ e => omega
    · rcases List.mem_cons.mp hr with rfl | hr
      · left
        cases WK_of h1 with
        | queued e _ _ => rw [hw] at e; simp at e
        | took e _ _ => rw [hw] at e; simp at e
        | fin e _ _ => rw [hw] at e; simp at e
        | done _ _ e => exact e
        | other _ _ _ _ e _ => exact absurd hw e
      · exact .inr ⟨r', hr, hw⟩
theorem full_of {vs : List Visit} (i : VI 4 vs) (c : Ch vs) : vs ≠ [] ∧ ∀ v ∈ vs, Full v := by
  obtain ⟨ini, v, a, f, g, e, h1, h2, h3⟩ := VI_4.mp i
  subst e
  refine ⟨by simp, fun u hu => ?_⟩
  rcases List.mem_append.mp hu with hu | hu
  · exact Ch_full ini v c u hu
  · rw [List.mem_singleton.mp hu]; exact ⟨a, f, g, h1, h2, h3⟩
def lin (k : Nat) (v : Visit) : Int := v.took.getD 0 - v.q - (if 0 < k then 1 else 0)
def linS (vs : List Visit) : Int := (vs.mapIdx lin).sum
def held (v : Visit) : Int := v.fin.getD 0 - v.took.getD 0 + 1
def heldS (vs : List Visit) : Int := (vs.map held).sum
def wait (v : Visit) : Int := v.gone.getD 0 - v.fin.getD 0
def waitS (vs : List Visit) : Int := (vs.map wait).sum
theorem held_W {now : Int} : ∀ {vs : List Visit}, (∀ v ∈ vs, Full v) → heldS vs = Wt now vs + vs.length
  | [], _ => rfl
  | v :: vs, h => by
    obtain ⟨a, f, g, h1, h2, h3⟩ := h v List.mem_cons_self
    have ih := held_W (now := now) (vs := vs) fun u hu => h u (List.mem_cons_of_mem _ hu)
    unfold heldS Wt at *
    rw [List.map_cons, List.map_cons, List.sum_cons, List.sum_cons, ih, List.length_cons]
    simp [held, wv, h1, h2]
    omega
theorem wait_H {now : Int} : ∀ {vs : List Visit}, (∀ v ∈ vs, Full v) → waitS vs = Ht now vs
  | [], _ => rfl
  | v :: vs, h => by
    obtain ⟨a, f, g, h1, h2, h3⟩ := h v List.mem_cons_self
    have ih := wait_H (now := now) (vs := vs) fun u hu => h u (List.mem_cons_of_mem _ hu)
    unfold waitS Ht at *
    rw [List.map_cons, List.map_cons, List.sum_cons, List.sum_cons, ih]
    simp [wait, hv, h2, h3]
def q0 (vs : List Visit) : Int := match vs with
  | [] => 0
  | v :: _ => v.q
theorem snoc_ind {α : Type} {P : List α → Prop} (h0 : P []) (h1 : ∀ xs x, P xs → P (xs ++ [x])) : ∀ xs, P xs := by
  have : ∀ n (xs : List α), xs.length = n → P xs := by
    intro n
    induction n with
    | zero => intro xs h; rw [List.length_eq_zero_iff.mp h]; exact h0
    | succ n ih =>
      intro xs h
      have hne : xs ≠ [] := by intro e; subst e; simp at h
      rw [← List.dropLast_concat_getLast hne]
      exact h1 _ _ (ih _ (by simp; omega))
  exact fun xs => this _ xs rfl
theorem tele1 : ∀ (ini : List Visit) (v : Visit), Ch (ini ++ [v]) → ((ini ++ [v]).map fun v => v.gone.getD 0 - v.q).sum = v.gone.getD 0 - q0 (ini ++ [v])
  | [], v, _ => by simp [q0]
  | [u], v, c => by
    have hq : u.gone = some v.q := c.1.2
    simp [q0, hq]
    omega
  | u :: w :: r, v, c => by
    have e := tele1 (w :: r) v c.2
    have hq : u.gone = some w.q := c.1.2
    rw [List.cons_append, List.map_cons, List.sum_cons, e, hq]
    show w.q - u.q + (v.gone.getD 0 - w.q) = v.gone.getD 0 - u.q
    omega
theorem sum3 : ∀ (vs : List Visit), (∀ u ∈ vs, Full u) → linS vs + heldS vs + waitS vs = (vs.map fun v => v.gone.getD 0 - v.q).sum + (if vs = [] then 0 else 1) := by
  refine snoc_ind (fun _ => rfl) fun vs v ih f => ?_
  have e := ih fun u hu => f u (List.mem_append_left _ hu)
  obtain ⟨a, b, g, h1, h2, h3⟩ := f v (by simp)
  have a1 : linS (vs ++ [v]) = linS vs + lin vs.length v := by unfold linS; rw [List.mapIdx_concat]; simp
  have a2 : heldS (vs ++ [v]) = heldS vs + held v := by unfold heldS; simp
  have a3 : waitS (vs ++ [v]) = waitS vs + wait v := by unfold waitS; simp
  rw [a1, a2, a3, List.map_append, List.sum_append, if_neg (by simp)]
  have : lin vs.length v + held v + wait v = (v.gone.getD 0 - v.q) + (if vs = [] then 1 else 0) := by
    unfold lin held wait
    rw [h1, h2, h3]
    cases vs with
    | nil => simp; omega
    | cons x xs => simp; omega
  simp only [List.map_cons, List.map_nil, List.sum_cons, List.sum_nil]
  by_cases hv : vs = []
  · rw [if_pos hv] at e this; omega
  · rw [if_neg hv] at e this; omega
/-- all times together, but for those ahead of the first visit -/
theorem tele {ini : List Visit} {v : Visit} (c : Ch (ini ++ [v])) (f : ∀ u ∈ ini ++ [v], Full u) {g : Int} (hg : v.gone = some g) : linS (ini ++ [v]) + heldS (ini ++ [v]) + waitS (ini ++ [v]) = g - q0 (ini ++ [v]) + 1 := by
  rw [sum3 _ f, tele1 ini v c, hg, if_neg (by simp)]
  rfl
end MP

/-! text SA6 -/
set_option Elab.async false
set_option linter.all false
set_option maxRecDepth 100000
set_option maxHeartbeats 4000000
namespace MP
open PySem PySem.Spec PyProof.Rows
open L2 hiding St
section
variable {h : Hs} {Q : QE} {rows : List LRow} {t : Int}
@[simp] theorem iadd_ii (i j : Int) (h : Hs) : iaddO (.int i) (.int j) h = some (.int (i + j), h) := rfl
theorem is_nonO (d : D) (h : Hs) : isO d .non h = some (.bl d.isNon, h) := rfl
theorem times_no (o : ∀ r ∈ rows, LWf r) (hl : rows.length ≤ 10000000) (ht : t ∈ (rows.filter fun r => decide (r.word = Str.ofString "came")).map LRow.tick)
    (hd : doneOf (storyOf rows t) = []) (q : ∀ h', Fm [] h h' → Q .non h') : wF F_times_of [.tup (rows.map LRow.d), .int t] h Q := by
  unfold F_times_of
  refine wF_runK ?_
  unfold S_times_of
  simp
  refine done_at_ok o hl ht fun h1 f1 => ?_
  rw [hd]
  simp [firstD, D.isNon]
  exact q h1 f1
theorem times_ok {r : LRow} {rs : List LRow} {v : Visit} {vs : List Visit} (o : ∀ r ∈ rows, LWf r) (hl : rows.length ≤ 10000000) (ht : t ∈ (rows.filter fun r => decide (r.word = Str.ofString "came")).map LRow.tick)
    (hm : lmach (some 5) rows t ≠ none) (ok : ∀ r ∈ rows, PyData.strOk r.stn = true) (hd : doneOf (storyOf rows t) ≠ []) (hs : storyOf rows t = r :: rs) (hv : vrun (storyOf rows t) = v :: vs) (hf : ∀ u ∈ v :: vs, Full u)
    (q : ∀ h', Fm [] h h' → Q (.tup [.int (v.q - r.mom), .int (linS (v :: vs)), .int (heldS (v :: vs)), .int (waitS (v :: vs))]) h') : wF F_times_of [.tup (rows.map LRow.d), .int t] h Q := by
  unfold F_times_of
  refine wF_runK ?_
  unfold S_times_of
  simp
  refine done_at_ok o hl ht fun h1 f1 => ?_
  obtain ⟨x, xs, e⟩ : ∃ x xs, doneOf (storyOf rows t) = x :: xs := by
    cases e : doneOf (storyOf rows t) with
    | nil => exact absurd e hd
    | cons x xs => exact ⟨x, xs, rfl⟩
  rw [e]
  simp [firstD, D.isNon]
  refine visits_ok o ht hl hm ok fun h2 f2 => ?_
  have hv' : vrun (rows.filter fun r => decide (r.tick = t)) = v :: vs := hv
  rw [hv']
  simp
  rw [show ixO v.d (.int 1) h2 = some (.int v.q, h2) from rfl]
  simp
  refine came_at_ok o hl ht hs fun h3 f3 => ?_
  simp
  have F3 := (f1.trans f2).trans f3
  generalize D.tup (v.d :: vs.map Visit.d) = Wd at *
  obtain ⟨J, hJ⟩ : ∃ J : Nat → Rho → Hs → Prop, ∀ j ρ hx, J j ρ hx ↔ ∃ o7 o8 o9 o10 o11 o12 o13, ρ = [some (.tup (rows.map LRow.d)), some (.int t), some Wd, some (.int (v.q - r.mom)), some (.int (linS ((v :: vs).take j))), some (.int (heldS ((v :: vs).take j))), some (.int (waitS ((v :: vs).take j))), o7, o8, o9, o10, o11, o12, o13] ∧ hx = h3 := ⟨_, fun _ _ _ => Iff.rfl⟩
  refine wFor_inv J ((hJ _ _ _).mpr ⟨none, none, none, none, none, none, none, rfl, rfl⟩) (fun j x ρ hx hj Jj => ?_) (fun ρ hx Jj => ?_)
  · obtain ⟨o7, o8, o9, o10, o11, o12, o13, e, eh⟩ := (hJ _ _ _).mp Jj
    subst e eh
    obtain ⟨y, hy, rfl⟩ := enum_at hj
    have hy : ((v :: vs).map Visit.d)[j]? = some y := hy
    rw [List.getElem?_map] at hy
    cases er : (v :: vs)[j]? with
    | none => rw [er] at hy; cases hy
    | some u =>
    rw [er] at hy
    cases hy
    obtain ⟨a, f, g, h1, h2, h3⟩ := hf u (List.mem_of_getElem? er)
    have jl : ((v :: vs).take j).length = j := by have := (List.getElem?_eq_some_iff.mp er).1; simp at this ⊢; omega
    have et : (v :: vs).take (j + 1) = (v :: vs).take j ++ [u] := by rw [List.take_add_one, er]; rfl
    have a1 : linS ((v :: vs).take (j + 1)) = linS ((v :: vs).take j) + (a - u.q - (if 0 < j then 1 else 0)) := by
      rw [et]; unfold linS; rw [List.mapIdx_concat, jl]; simp [lin, h1]
    have a2 : heldS ((v :: vs).take (j + 1)) = heldS ((v :: vs).take j) + (f - a + 1) := by
      rw [et]; unfold heldS; simp [held, h1, h2]
    have a3 : waitS ((v :: vs).take (j + 1)) = waitS ((v :: vs).take j) + (g - f) := by
      rw [et]; unfold waitS; simp [wait, h2, h3]
    refine ⟨trivial, ?_⟩
    simp [Visit.d, h1, h2, h3, optI]
    refine (hJ _ _ _).mpr ⟨some (.int j), some (.str u.stn), some (.int u.q), some (.int a), some (.int f), some (.int g), some (.bl u.sp), ?_, rfl⟩
    rw [a1, a2, a3]
  · obtain ⟨o7, o8, o9, o10, o11, o12, o13, e, eh⟩ := (hJ _ _ _).mp Jj
    subst e eh
    rw [enumD_len]
    rw [show (v.d :: vs.map Visit.d).length = (v :: vs).length by simp, List.take_length]
    refine ⟨trivial, ?_⟩
    simp
    exact q _ F3
end
end MP

/-! text SA7 -/
set_option Elab.async false
set_option linter.all false
set_option maxRecDepth 100000
set_option maxHeartbeats 4000000
namespace MP
open PySem PySem.Spec PyProof.Rows
open L2 hiding St
theorem plain_parts {xs : List Part} (h : ∀ x ∈ xs, Tagged x.tag) : (xs.map Part.d).all (plain 1) = true := by
  rw [List.all_map, List.all_eq_true]
  intro x hx
  obtain ⟨n, en, _⟩ := h x hx
  simp [Part.d, plain, en]
theorem tag_at {x : Part} (hx : Tagged x.tag) (h : Hs) : ixO x.d (.int 4) h = some (.int (tagN x), h) := by
  obtain ⟨n, en, _⟩ := hx
  unfold Part.d tagN
  simp [en]
section
variable {p : Pl} {h : Hs} {Q : QE}
def c4 (a b c d : Int) : List D := [.int a, .int b, .int c, .int d]
/-- the bays' loop -/
theorem counts_bays {t a b : Int} {f : Nat} {bs : List Bay} {o0 o1 o3 o4 o5 o7 o8 o10 o11 o12 o13 : Option D} {Q : QS} : ∀ (c d : Int) (h : Hs) (o9 : Option D), (∀ b ∈ bs, ∀ x k, b.hold = some (x, k) → Tagged x.tag) → Ls h f (c4 a b c d) →
    (∀ h' o9, Fm [f] h h' → Ls h' f (c4 a b (c + ((bs.filter fun b => decide (bh t b = 2)).length : Int)) (d + ((bs.filter fun b => decide (bh t b = 3)).length : Int))) → Q .nx [o0, o1, some (.int t), o3, o4, o5, some (.loc f), o7, o8, o9, o10, o11, o12, o13] h') →
    wFor none (gVar 9) (sSeq (sIf (bAnd (bBool (mOp2 isNotO (mOp2 ixO (mVar 9) (mC (.int 4))) (mC .non))) (bBool (mOp2 eqO (mOp2 ixO (mOp2 ixO (mOp2 ixO (mVar 9) (mC (.int 4))) (mC (.int 0))) (mC (.int 4))) (mVar 2)))) (sSeq (sSet (mOp2 addD (mOp2 ixO (mVar 6) (mIf (bBool (mOp2 gtO (mOp2 ixO (mOp2 ixO (mVar 9) (mC (.int 4))) (mC (.int 1))) (mC (.int 0)))) (mC (.int 2)) (mC (.int 3)))) (mC (.int 1))) (gSubM (mVar 6) (mIf (bBool (mOp2 gtO (mOp2 ixO (mOp2 ixO (mVar 9) (mC (.int 4))) (mC (.int 1))) (mC (.int 0)))) (mC (.int 2)) (mC (.int 3))))) sNext) sNext) sNext) (bs.map bayD) [o0, o1, some (.int t), o3, o4, o5, some (.loc f), o7, o8, o9, o10, o11, o12, o13] h Q := by
  intro c d h o9 hT L q
  obtain ⟨J, hJ⟩ : ∃ J : Nat → Rho → Hs → Prop, ∀ j ρ hx, J j ρ hx ↔ ∃ o9, ρ = [o0, o1, some (.int t), o3, o4, o5, some (.loc f), o7, o8, o9, o10, o11, o12, o13] ∧ Fm [f] h hx ∧ Ls hx f (c4 a b (c + (((bs.take j).filter fun b => decide (bh t b = 2)).length : Int)) (d + (((bs.take j).filter fun b => decide (bh t b = 3)).length : Int))) := ⟨_, fun _ _ _ => Iff.rfl⟩
  refine wFor_inv J ((hJ _ _ _).mpr ⟨_, rfl, Fm.refl _ _, by simpa using L⟩) (fun j x ρ hx hj Jj => ?_) (fun ρ hx Jj => ?_)
  · obtain ⟨o9, e, F, L⟩ := (hJ _ _ _).mp Jj
    subst e
    rw [List.getElem?_map] at hj
    cases er : bs[j]? with
    | none => rw [er] at hj; cases hj
    | some y =>
    rw [er] at hj
    cases hj
    have hT := hT y (List.mem_of_getElem? er)
    have et : bs.take (j + 1) = bs.take j ++ [y] := by rw [List.take_add_one, er]; rfl
    have hf := L.lt
    refine ⟨trivial, ?_⟩
    have fin : ∀ (c' d' : Int) (h' : Hs), Fm [f] hx h' → Ls h' f (c4 a b c' d') → c' = c + (((bs.take (j + 1)).filter fun b => decide (bh t b = 2)).length : Int) → d' = d + (((bs.take (j + 1)).filter fun b => decide (bh t b = 3)).length : Int) →
        J (j + 1) [o0, o1, some (.int t), o3, o4, o5, some (.loc f), o7, o8, some (bayD y), o10, o11, o12, o13] h' := by
      rintro c' d' h' F' L' rfl rfl
      exact (hJ _ _ _).mpr ⟨_, rfl, F.trans F', L'⟩
    rw [et, List.filter_append, List.filter_append, List.length_append, List.length_append] at fin
    generalize (((bs.take j).filter fun b => decide (bh t b = 2)).length) = n2 at *
    generalize (((bs.take j).filter fun b => decide (bh t b = 3)).length) = n3 at *
    cases hh : y.hold with
    | none =>
      simp [bayD, Bay.ds, hh, holdD]
      have e0 : bh t y = 0 := by unfold bh; rw [hh]
      have := fin _ _ hx (Fm.refl _ _) L (by simp [e0]) (by simp [e0])
      simpa [bayD, Bay.ds, hh, holdD] using this
    | some xl =>
      obtain ⟨x, left⟩ := xl
      have hx4 := tag_at (hT x left hh)
      simp [bayD, Bay.ds, hh, holdD, hx4]
      by_cases q1 : tagN x = t
      · by_cases q2 : 0 < left
        · have e0 : bh t y = 2 := by unfold bh; rw [hh]; simp [q1, q2]
          simp [q1, q2, L.i, L.l, c4]
          rw [show ixN 4 2 = some 2 from rfl]
          simp
          have := fin (c + n2 + 1) (d + n3) _ ((Fm.refl _ _).set _ (.inl (by simp))) (L.set (c4 a b (c + n2 + 1) (d + n3))) (by simp [e0]; omega) (by simp [e0])
          simpa [bayD, Bay.ds, hh, holdD, c4] using this
        · have e0 : bh t y = 3 := by unfold bh; rw [hh]; simp [q1, q2]
          simp [q1, q2, L.i, L.l, c4]
          rw [show ixN 4 3 = some 3 from rfl]
          simp
          have := fin (c + n2) (d + n3 + 1) _ ((Fm.refl _ _).set _ (.inl (by simp))) (L.set (c4 a b (c + n2) (d + n3 + 1))) (by simp [e0]) (by simp [e0]; omega)
          simpa [bayD, Bay.ds, hh, holdD, c4] using this
      · have e0 : bh t y = 0 := by unfold bh; rw [hh]; simp [q1]
        simp [q1]
        have := fin _ _ hx (Fm.refl _ _) L (by simp [e0]) (by simp [e0])
        simpa [bayD, Bay.ds, hh, holdD] using this
  · obtain ⟨o9, e, F, L⟩ := (hJ _ _ _).mp Jj
    subst e
    rw [List.length_map, List.take_length] at L
    exact ⟨trivial, q _ _ F L⟩
/-- the queues' loop -/
theorem counts_queues {t a c d : Int} {f : Nat} {qs : List (List Part)} {o0 o1 o3 o4 o5 o7 o9 o10 o11 o12 o13 : Option D} {Q : QS} (b : Int) (h : Hs) (o8 : Option D) (hT : ∀ q ∈ qs, ∀ x ∈ q, Tagged x.tag) (hl : ∀ q ∈ qs, q.length ≤ 1000000) (L : Ls h f (c4 a b c d))
    (q : ∀ h' b o8 o12, Fm [f] h h' → Ls h' f (c4 a b c d) → Q .nx [o0, o1, some (.int t), o3, o4, o5, some (.loc f), o7, o8, o9, o10, o11, o12, o13] h') :
    wFor none (gVar 8) (sSeq (sSet (mOp2 addD (mOp2 ixO (mVar 6) (mC (.int 1))) (mCallN lenN (aCons (mLc (iSeq (mVar 8)) (gVar 12) (bBool (mOp2 eqO (mOp2 ixO (mVar 12) (mC (.int 4))) (mVar 2))) (mVar 12) [12]) aNil))) (gSubM (mVar 6) (mC (.int 1)))) sNext) (qs.map queueD) [o0, o1, some (.int t), o3, o4, o5, some (.loc f), o7, o8, o9, o10, o11, o12, o13] h Q := by
  obtain ⟨J, hJ⟩ : ∃ J : Nat → Rho → Hs → Prop, ∀ j ρ hx, J j ρ hx ↔ ∃ o8 o12 b, ρ = [o0, o1, some (.int t), o3, o4, o5, some (.loc f), o7, o8, o9, o10, o11, o12, o13] ∧ Fm [f] h hx ∧ Ls hx f (c4 a b c d) := ⟨_, fun _ _ _ => Iff.rfl⟩
  refine wFor_inv J ((hJ _ _ _).mpr ⟨_, _, _, rfl, Fm.refl _ _, L⟩) (fun j x ρ hx hj Jj => ?_) (fun ρ hx Jj => ?_)
  · obtain ⟨o8, o12, b, e, F, L⟩ := (hJ _ _ _).mp Jj
    subst e
    rw [List.getElem?_map] at hj
    cases er : qs[j]? with
    | none => rw [er] at hj; cases hj
    | some y =>
    rw [er] at hj
    cases hj
    have hy := hT y (List.mem_of_getElem? er)
    have hyl := hl y (List.mem_of_getElem? er)
    refine ⟨trivial, ?_⟩
    simp [queueD, L.i, c4]
    refine wLc_pureM (fun x : Part => decide (tagN x = t)) (fun x => x.d) (by simp; omega) (fun _ _ => trivial) (fun x h1 hx f1 => ?_) (fun h1 f1 L1 => ?_)
    · have hx4 := tag_at (hy x hx) h1
      simp [hx4]
    · have Lf := L.keep0 f1
      simp [L1.i, Lf.l, c4]
      rw [show ixN 4 1 = some 1 from rfl]
      simp
      exact (hJ _ _ _).mpr ⟨_, _, _, rfl, F.trans ((f1.of0).set _ (.inl (by simp))), Lf.set _⟩
  · obtain ⟨o8, o12, b, e, F, L⟩ := (hJ _ _ _).mp Jj
    subst e
    exact ⟨trivial, q _ _ _ _ F L⟩
theorem law_counts_ok {said : List Str} {t : Int} (hp : PlOk p) (C : CourseOk p said) (q : ∀ f h' b, Fm [] h h' → Ls h' f (c4 (p.cnt said t 0 said.length) b (p.cnt said t 2 said.length) (p.cnt said t 3 said.length)) → Q (.loc f) h') : wF F_law_counts [p.d, .tup (said.map D.str), .int t] h Q := by
  have n26 := hp.len
  have o100 := hp.olen
  have c40 := C.len
  unfold F_law_counts
  refine wF_runK ?_
  unfold S_law_counts
  simp
  refine start_ok hp fun h1 f1 => ?_
  have f2 : Fm [] h1 (h1 ++ [.lst [.int 0, .int 0, .int 0, .int 0]]) := (Fm.refl _ _).app _
  have L0 := Ls.new h1 [.int 0, .int 0, .int 0, .int 0]
  have e1 := f1.len
  obtain ⟨f, ef⟩ : ∃ f, f = h1.length := ⟨_, rfl⟩
  rw [← ef] at L0 ⊢
  generalize h1 ++ [AO.lst [.int 0, .int 0, .int 0, .int 0]] = h2 at *
  obtain ⟨J, hJ⟩ : ∃ J : Nat → Rho → Hs → Prop, ∀ i ρ hx, J i ρ hx ↔ ∃ o3 o7 o8 o9 o10 o11 o12 o13 b, ρ = [some p.d, some (.tup (said.map D.str)), some (.int t), o3, some (p.logAll (said.take i)).st.d, some (.int (p.logAll (said.take i)).coming), some (.loc f), o7, o8, o9, o10, o11, o12, o13] ∧ Fm [] h hx ∧ Ls hx f (c4 (p.cnt said t 0 i) b (p.cnt said t 2 i) (p.cnt said t 3 i)) := ⟨_, fun _ _ _ => Iff.rfl⟩
  refine wFor_inv J ((hJ _ _ _).mpr ⟨none, none, none, none, none, none, none, none, 0, rfl, f1.trans f2, L0⟩) (fun i x ρ hx hi Ji => ?_) (fun ρ hx Ji => ?_)
  · obtain ⟨o3, o7, o8, o9, o10, o11, o12, o13, b, e, F, L⟩ := (hJ _ _ _).mp Ji
    subst e
    rw [List.getElem?_map] at hi
    cases hw : said[i]? with
    | none => rw [hw] at hi; cases hi
    | some w =>
    rw [hw] at hi
    cases hi
    have hi1 := (List.getElem?_eq_some_iff.mp hw).1
    have tl : (said.take i).length = i := by simp; omega
    have lo := logOk_all hp i (said.take i) tl (by omega)
    have li := logI_all hp i (said.take i) tl (by omega)
    have lo2 := logOk_step (w := w) hp lo (by omega)
    have li2 := logI_step (w := w) hp lo li
    have et : said.take (i + 1) = said.take i ++ [w] := by rw [List.take_add_one, hw]; rfl
    have en : p.logAll (said.take (i + 1)) = p.logStep (p.logAll (said.take i)) w := by rw [et, logAll_snoc]
    have cn : ∀ s, p.cnt said t s (i + 1) = p.cnt said t s i + (if lM (p.logStep (p.logAll (said.take i)) w).found t = some s then 1 else 0) := fun s => by rw [← en]; rfl
    have hop := C.open_ i w hw
    rw [← lo.er] at hop
    generalize hL : p.logAll (said.take i) = l at *
    have c100 := coming_len p l.st.phase
    refine ⟨trivial, ?_⟩
    simp
    refine wLc_pureM (fun o : Order => decide (o.phase = l.st.phase)) (fun o => o.d) (by simp; omega) (fun _ _ => trivial) (fun o h3 ho f3 => by simp) (fun h3 f3 L3 => ?_)
    have cc := coming_count p l.st.phase
    simp [L3.i]
    rw [cc]
    refine ⟨by omega, ?_⟩
    unfold rangeD
    simp
    refine wLc_mapM (dec := fun (k : Nat) => D.int k) (fun k : Nat => D.tup [.int (l.coming + k)]) (by simp; omega) (fun _ _ => trivial) (fun k h4 hk f4 => by simp) (fun h4 f4 L4 => ?_)
    have etg : D.tup ((List.range (p.coming l.st.phase).length).map fun (k : Nat) => D.tup [.int (l.coming + k)]) = tagsD (p.tagsAt l.st l.coming) := by
      unfold tagsD Pl.tagsAt
      rw [List.map_map]; rfl
    simp [L4.i, etg]
    refine moment_ok hp lo.st (.inr (tagsAt_len _ _)) (fun k b hb => back_of hp hop k b hb (mo2_lt hp lo.st hb)) (by omega) (by omega) fun R h5 f5 hR LR => ?_
    have F5 := (f3.trans f4).trans f5
    have Lf5 := L.keep0 F5
    have st2 : StaOk p (p.next l.st w (p.tagsAt l.st l.coming)) _ _ := lo2.st
    have tg2 : StaT Tagged (p.next l.st w (p.tagsAt l.st l.coming)) := lo2.tag
    have iv2 : MP.Inv (lM (p.logStep l w).found) (plS (p.next l.st w (p.tagsAt l.st l.coming))) := li2.inv
    have es2 : (p.logStep l w).st = p.next l.st w (p.tagsAt l.st l.coming) := rfl
    have ec2 : (p.logStep l w).coming = l.coming + ((p.coming l.st.phase).length : Int) := rfl
    generalize hS : p.next l.st w (p.tagsAt l.st l.coming) = S at *
    have glen : S.gate.length ≤ 100000 := by have := st2.glen; rw [List.length_append, tl] at this; simp at this; omega
    have qlen : ∀ q ∈ S.queues, q.length ≤ 1000000 := fun q hq => by have := (st2.part q hq).2; rw [List.length_append, tl] at this; simp at this; omega
    simp
    refine wLc_pureM (fun x : Part => decide (tagN x = t)) (fun x => x.d) (by simp; omega) (fun _ _ => trivial) (fun x h6 hx f6 => ?_) (fun h6 f6 L6 => ?_)
    · have hx4 := tag_at (tg2.gate x hx) h6
      simp [hx4]
    have La := L6.app [AO.lst []]
    have Lb := Ls.new h6 []
    have fa : Fm [] h6 (h6 ++ [AO.lst []]) := (Fm.refl _ _).app _
    have Lf := (Lf5.keep0 f6).keep0 fa
    have F6 := (F5.trans f6).trans fa
    have hfl : h.length ≤ f := by omega
    rw [ne_nilL La.i Lb.i (by decide) (plain_parts fun x hx => tg2.gate x (List.mem_filter.mp hx).1)]
    have gi := gate_iff (t := t) iv2 tg2
    by_cases g0 : (S.gate.filter fun x => decide (tagN x = t)) = []
    · have m0 : ¬ lM (p.logStep l w).found t = some 0 := fun z => gi.mpr z g0
      simp [g0]
      have L7 := Lf
      have F7 : Fm [f] hx _ := F6.of0
      refine counts_queues _ _ _ tg2.que qlen L7 fun h8 b8 o8 o12 f8 L8 => ?_
      simp
      refine counts_bays _ _ _ _ tg2.bay L8 fun h9 o9 f9 L9 => ?_
      rw [bays_cnt (.inl rfl) iv2 tg2, bays_cnt (.inr rfl) iv2 tg2] at L9
      simp
      apply (hJ _ _ _).mpr
      rw [en, es2, ec2]
      refine ⟨_, _, _, _, _, _, _, _, b8, rfl, F.then1 ((F7.trans f8).trans f9) (.inr hfl), ?_⟩
      · rw [cn, cn, cn]
        have cast : ∀ P : Prop, ∀ [Decidable P], ((if P then (1 : Nat) else 0 : Nat) : Int) = if P then 1 else 0 := fun P _ => by split <;> rfl
        rw [cast, cast] at L9
        rw [if_neg m0, Int.add_zero]
        exact L9
    · have m0 : lM (p.logStep l w).found t = some 0 := gi.mp g0
      have g1 : ((S.gate.filter fun x => decide (tagN x = t)).map Part.d).isEmpty = false := by
        cases z : (S.gate.filter fun x => decide (tagN x = t)) with
        | nil => exact absurd z g0
        | cons a r => rfl
      rw [g1]
      simp [Lf.i, Lf.l, c4]
      rw [show ixN 4 0 = some 0 from rfl]
      simp
      have L7 : Ls _ f (c4 (p.cnt said t 0 i + 1) b (p.cnt said t 2 i) (p.cnt said t 3 i)) := Lf.set _
      have F7 : Fm [f] hx _ := (F6.of0).set (n := f) (.lst (c4 (p.cnt said t 0 i + 1) b (p.cnt said t 2 i) (p.cnt said t 3 i))) (.inl (by simp))
      refine counts_queues _ _ _ tg2.que qlen L7 fun h8 b8 o8 o12 f8 L8 => ?_
      simp
      refine counts_bays _ _ _ _ tg2.bay L8 fun h9 o9 f9 L9 => ?_
      rw [bays_cnt (.inl rfl) iv2 tg2, bays_cnt (.inr rfl) iv2 tg2] at L9
      simp
      apply (hJ _ _ _).mpr
      rw [en, es2, ec2]
      refine ⟨_, _, _, _, _, _, _, _, b8, rfl, F.then1 ((F7.trans f8).trans f9) (.inr hfl), ?_⟩
      · rw [cn, cn, cn]
        have cast : ∀ P : Prop, ∀ [Decidable P], ((if P then (1 : Nat) else 0 : Nat) : Int) = if P then 1 else 0 := fun P _ => by split <;> rfl
        rw [cast, cast] at L9
        rw [if_pos m0]
        exact L9
  · obtain ⟨o3, o7, o8, o9, o10, o11, o12, o13, b, e, F, L⟩ := (hJ _ _ _).mp Ji
    subst e
    rw [List.length_map, List.take_length] at *
    refine ⟨trivial, ?_⟩
    simp
    exact q f hx _ F L
end
end MP

/-! text SA8 -/
set_option Elab.async false
set_option linter.all false
set_option maxRecDepth 100000
set_option maxHeartbeats 4000000
namespace MP
open PySem PySem.Spec PyProof.Rows
open L2 hiding St
theorem sum_ints {h : Hs} {n : Nat} {xs : List Int} (e : itemsAt h n = some (xs.map D.int)) : sumN [.loc n] h = some (.int xs.sum, h) := by
  unfold sumN
  show (match (itemsAt h n).bind asInts with | some ns => _ | none => _) = _
  rw [e, Option.bind_some, asInts_map]
theorem still4 : ∀ (rs : List LRow) (k : Nat) (vs : List Visit), srun (some 4) rs = some k → rs.foldl vstep vs = vs
  | [], k, vs, _ => rfl
  | r :: rs, k, vs, h => by
    obtain ⟨k1, h1, h2⟩ := srun_cons h
    have key : k1 = 4 ∧ vstep vs r = vs := by
      cases WK_of h1 with
      | queued _ e _ => omega
      | took _ e _ => omega
      | fin _ e _ => omega
      | done _ e _ => omega
      | other a b c d e f => exact ⟨by omega, vstep_other a b c d e⟩
    rw [List.foldl_cons, key.2]
    rw [key.1] at h2
    exact still4 rs k vs h2
theorem done_last {rs ds : List LRow} {r : LRow} {k : Nat} (h : srun (some 5) rs = some k) (hd : (rs.filter fun r => decide (r.word = Str.ofString "done")) = r :: ds) : k = 4 ∧ ∃ ini v, vrun rs = ini ++ [v] ∧ v.gone = some r.mom := by
  obtain ⟨l1, l2, e, _, h2, _⟩ := List.filter_eq_cons_iff.mp hd
  have hw : r.word = Str.ofString "done" := by simpa using h2
  have hk : k = 4 := srun_done rs 5 k h (.inr ⟨r, by rw [e]; simp, hw⟩)
  refine ⟨hk, ?_⟩
  subst e
  have hne : srun (some 5) (l1 ++ r :: l2) ≠ none := by rw [h]; exact fun z => nomatch z
  obtain ⟨k0, e0⟩ := srun_take hne l1.length
  rw [List.take_left] at e0
  have vi := VI_at hne l1.length k0 (by simp) (by rw [List.take_left]; exact e0)
  rw [List.take_left] at vi
  rw [srun_app, e0] at h
  obtain ⟨k1, h1, h3⟩ := srun_cons h
  cases WK_of h1 with
  | queued e _ _ => rw [hw] at e; simp at e
  | took e _ _ => rw [hw] at e; simp at e
  | fin e _ _ => rw [hw] at e; simp at e
  | other _ _ _ _ e _ => exact absurd hw e
  | done _ e1 e2 =>
    subst e1 e2
    obtain ⟨ini, v, a, b, ev, va, vb, vc⟩ := VI_3.mp vi
    refine ⟨ini, { v with gone := some r.mom }, ?_, rfl⟩
    rw [vrun_app, List.foldl_cons, vstep_done hw, ev, lastM_snoc, still4 l2 k _ h3]
theorem linS_range (vs : List Visit) : ((List.range vs.length).map fun k => lin k (vs[k]?.getD ⟨⟨#[]⟩, 0, none, none, none, false⟩)).sum = linS vs := by
  unfold linS
  congr 1
  refine List.ext_getElem? fun i => ?_
  rw [List.getElem?_map, List.getElem?_mapIdx]
  by_cases hi : i < vs.length
  · rw [List.getElem?_range hi, List.getElem?_eq_getElem hi]
    simp [List.getElem?_eq_getElem hi]
  · rw [List.getElem?_eq_none (by simp; omega), List.getElem?_eq_none (by omega)]; rfl
/-- all that the law asks of a ticket that is done -/
theorem done_facts {p : Pl} {said : List Str} {t : Int} {r d : LRow} {rs ds : List LRow} (hp : PlOk p) (hs : said.length ≤ 40) (ht : 1 ≤ t) (e : storyOf (p.logAll said).found t = r :: rs)
    (hd : ((storyOf (p.logAll said).found t).filter fun r => decide (r.word = Str.ofString "done")) = d :: ds) :
    ∃ v vs, vrun (storyOf (p.logAll said).found t) = v :: vs ∧ (∀ u ∈ v :: vs, Full u) ∧ v.q - r.mom = p.cnt said t 0 said.length ∧ heldS (v :: vs) = p.cnt said t 2 said.length + (v :: vs).length ∧ waitS (v :: vs) = p.cnt said t 3 said.length ∧
      v.q - r.mom + linS (v :: vs) + heldS (v :: vs) + waitS (v :: vs) = d.num := by
  obtain ⟨k, ek, P⟩ := pot_all hp hs ht said.length (Nat.le_refl _)
  rw [List.take_length] at ek P
  have la := logA_all hp said.length said rfl (by omega)
  have ek2 := ek
  rw [lM_srun ht] at ek2
  obtain ⟨hk, ini, w, ew, hg⟩ := done_last ek2 hd
  subst hk
  obtain ⟨hne, hf⟩ := full_of P.vi P.ch
  obtain ⟨p1, p2, p3⟩ := P.pot (by decide)
  have hdm : d ∈ storyOf (p.logAll said).found t := (List.mem_filter.mp (by rw [hd]; exact List.mem_cons_self : d ∈ (storyOf (p.logAll said).found t).filter fun r => decide (r.word = Str.ofString "done"))).1
  have hdw : d.word = Str.ofString "done" := by
    have : d ∈ (storyOf (p.logAll said).found t).filter fun r => decide (r.word = Str.ofString "done") := by rw [hd]; exact List.mem_cons_self
    simpa using (List.mem_filter.mp this).2
  obtain ⟨h1, h2⟩ := List.mem_filter.mp hdm
  have h2 : d.tick = t := by simpa using h2
  obtain ⟨r0, rs0, e0, en⟩ := la.done d h1 hdw
  rw [h2, e] at e0
  cases e0
  have ec : cOf (storyOf (p.logAll said).found t) = r.mom := by rw [e]; rfl
  rw [ec] at p1
  generalize vrun (storyOf (p.logAll said).found t) = V at *
  cases V with
  | nil => exact absurd rfl hne
  | cons v vs =>
    refine ⟨v, vs, rfl, hf, ?_, ?_, ?_, ?_⟩
    · rw [p1]; rfl
    · rw [p2]; exact held_W hf
    · rw [p3]; exact wait_H hf
    · have hf' : ∀ u ∈ ini ++ [w], Full u := by rw [← ew]; exact hf
      have hc : Ch (ini ++ [w]) := by rw [← ew]; exact P.ch
      have t1 := tele hc hf' hg
      rw [← ew] at t1
      have : q0 (v :: vs) = v.q := rfl
      omega
end MP

/-! text SA9 -/
set_option Elab.async false
set_option linter.all false
set_option maxRecDepth 100000
set_option maxHeartbeats 4000000
namespace MP
open PySem PySem.Spec PyProof.Rows
open L2 hiding St
theorem law_k25 (ns : List Int) : ∃ h', F_law [.loc 0] [.frz ns] = some (.bl true, h') := by
  suffices H : wF F_law [.loc 0] [.frz ns] (fun d _ => d = .bl true) by
    obtain ⟨d, h', e, q⟩ := H
    exact ⟨h', by rw [e, q]⟩
  unfold F_law
  refine wF_runK ?_
  unfold S_law
  simp
  have R0 : Rw 1 [AO.frz ns, .lst [.loc 0, .int 0, .int 7251, .int 0]] := ⟨ns, 0, 7251, 0, rfl, rfl, by omega, by omega⟩
  obtain ⟨J, hJ⟩ : ∃ J : Nat → Rho → Hs → Prop, ∀ j ρ hx, J j ρ hx ↔ ∃ o2 o3 o4 o5 o6 o7 o8 o9 o10 o11 o12 o13 o14, ρ = [some (.loc 0), some (.loc 1), o2, o3, o4, o5, o6, o7, o8, o9, o10, o11, o12, o13, o14] ∧ Rw 1 hx := ⟨_, fun _ _ _ => Iff.rfl⟩
  refine wFor_inv J ((hJ _ _ _).mpr ⟨none, none, none, none, none, none, none, none, none, none, none, none, none, rfl, R0⟩) (fun j x ρ hx hj Jj => ?_) (fun ρ hx Jj => ?_)
  · obtain ⟨o2, o3, o4, o5, o6, o7, o8, o9, o10, o11, o12, o13, o14, e, R⟩ := (hJ _ _ _).mp Jj
    subst e
    refine ⟨trivial, ?_⟩
    simp
    refine lines_ok R fun p said f h1 hp oft C cl g1 ff L1 => ?_
    simp
    have R1 := g1.rw
    have wf := log_wf hp said.length said rfl (by omega)
    have li := (logI_all hp said.length said rfl (by omega)).inv.ok
    have st := log_stn hp (said := said) (by omega)
    have ll := logAll_len' hp (said := said) (by omega)
    have tk1 := log_came hp said.length said rfl (by omega)
    have df := fun (t : Int) (r d : LRow) (rs ds : List LRow) => done_facts (p := p) (said := said) (t := t) (r := r) (d := d) (rs := rs) (ds := ds) hp (by omega)
    generalize (p.logAll said).found = rows at *
    refine tickets_ok L1 (by omega) fun g h2 f2 L2 => ?_
    have R2 := R1.keep f2
    have Lg := L1.keep0 f2
    have htk : ∀ t ∈ sortI ((rows.filter fun r => decide (r.word = Str.ofString "came")).map LRow.tick), t ∈ (rows.filter fun r => decide (r.word = Str.ofString "came")).map LRow.tick := fun t ht => (sortI_perm _).mem_iff.mp ht
    generalize hT : sortI ((rows.filter fun r => decide (r.word = Str.ofString "came")).map LRow.tick) = ts at *
    simp [L2.i]
    obtain ⟨I, hI⟩ : ∃ I : Nat → Rho → Hs → Prop, ∀ j ρ hx, I j ρ hx ↔ ∃ o2 o3 o7 o8 o9 o10 o11 o12 o13 o14, ρ = [some (.loc 0), some (.loc 1), o2, o3, some p.d, some (.tup (said.map D.str)), some (.loc f), o7, o8, o9, o10, o11, o12, o13, o14] ∧ Fm [] h2 hx := ⟨_, fun _ _ _ => Iff.rfl⟩
    refine wFor_inv I ((hI _ _ _).mpr ⟨_, _, _, _, _, _, _, _, _, _, rfl, Fm.refl _ _⟩) (fun j x ρ hx hj Ij => ?_) (fun ρ hx Ij => ?_)
    · obtain ⟨o2, o3, o7, o8, o9, o10, o11, o12, o13, o14, e, F⟩ := (hI _ _ _).mp Ij
      subst e
      rw [List.getElem?_map] at hj
      cases er : ts[j]? with
      | none => rw [er] at hj; cases hj
      | some t =>
      rw [er] at hj
      cases hj
      have ht := htk t (List.mem_of_getElem? er)
      have lm := li t
      have ht1 : 1 ≤ t := by
        obtain ⟨r, hr, er⟩ := List.mem_map.mp ht
        have := tk1 r (List.mem_filter.mp hr).1 (by simpa using (List.mem_filter.mp hr).2)
        omega
      have t1 : lmach (some 5) rows t ≠ none := by
        unfold lM at lm
        rwa [if_pos ht1] at lm
      have df := df t
      refine ⟨(L2.keep0 F).i, ?_⟩
      have Lx := Lg.keep0 F
      simp [Lx.i]
      refine wLc_pureM (fun r : LRow => decide (r.word = Str.ofString "done") && decide (r.tick = t)) (fun r => .int r.num) (by simp; omega) (fun h' f' => (Lx.keep0 f').i) (fun r h3 hx f3 => ?_) (fun h3 f3 L3 => ?_)
      · by_cases q1 : r.word = Str.ofString "done" <;> by_cases q2 : r.tick = t <;> simp [LRow.d, q1, q2]
      have ef : (rows.filter fun r => decide (r.word = Str.ofString "done") && decide (r.tick = t)) = (storyOf rows t).filter fun r => decide (r.word = Str.ofString "done") := by
        unfold storyOf
        rw [List.filter_filter]
      rw [ef] at L3
      have L3' : Ls h3 hx.length ((((storyOf rows t).filter fun r => decide (r.word = Str.ofString "done")).map LRow.num).map D.int) := by rw [List.map_map]; exact L3
      have Lx3 := Lx.keep0 f3
      simp [Lx3.i]
      obtain ⟨r, rs, hrs⟩ := story_ne ht
      have fin : ∀ (o3 o7 o8 o9 o10 o11 o12 o13 o14 : Option D) (hy : Hs), Fm [] hx hy → I (j + 1) [some (.loc 0), some (.loc 1), o2, o3, some p.d, some (.tup (said.map D.str)), some (.loc f), o7, o8, o9, o10, o11, o12, o13, o14] hy := fun _ _ _ _ _ _ _ _ _ hy Fy => (hI _ _ _).mpr ⟨_, _, _, _, _, _, _, _, _, _, rfl, F.trans Fy⟩
      cases hd : (storyOf rows t).filter fun r => decide (r.word = Str.ofString "done") with
      | nil =>
        refine times_no wf (by omega) ht (by unfold doneOf; rw [hd]; rfl) fun h4 f4 => ?_
        rw [hd] at L3'
        have L4 := (L3'.keep0 f4).app [AO.lst []]
        have Lb := Ls.new h4 []
        have fa : Fm [] h4 (h4 ++ [AO.lst []]) := (Fm.refl _ _).app _
        simp
        rw [eqo_nilL L4.i Lb.i (by decide) (plain_ints _)]
        simp
        exact fin _ _ _ _ _ _ _ _ _ _ ((f3.trans f4).trans fa)
      | cons d ds =>
        obtain ⟨v, vs, hv, hf, a1, a2, a3, a4⟩ := df r d rs ds ht1 hrs hd
        refine times_ok wf (by omega) ht t1 st (by unfold doneOf; rw [hd]; simp) hrs hv hf fun h4 f4 => ?_
        rw [hd] at L3'
        have L4 := (L3'.keep0 f4).app [AO.lst []]
        have Lb := Ls.new h4 []
        have fa : Fm [] h4 (h4 ++ [AO.lst []]) := (Fm.refl _ _).app _
        simp
        rw [eqo_nilL L4.i Lb.i (by decide) (plain_ints _)]
        simp
        have L5 : itemsAt (h4 ++ [AO.lst [], AO.lst [D.int (v.q - r.mom), D.int (linS (v :: vs)), D.int (heldS (v :: vs)), D.int (waitS (v :: vs))]]) (h4.length + 1) = some ([v.q - r.mom, linS (v :: vs), heldS (v :: vs), waitS (v :: vs)].map D.int) := by
          unfold itemsAt; simp
        have Fa : Fm [] h4 (h4 ++ [AO.lst [], AO.lst [D.int (v.q - r.mom), D.int (linS (v :: vs)), D.int (heldS (v :: vs)), D.int (waitS (v :: vs))]]) := (Fm.refl _ _).app _
        have es : [v.q - r.mom, linS (v :: vs), heldS (v :: vs), waitS (v :: vs)].sum = d.num := by simp; omega
        rw [sum_ints L5, wO_some, es]
        have F5 := f4.trans Fa
        generalize h4 ++ [AO.lst [], AO.lst [D.int (v.q - r.mom), D.int (linS (v :: vs)), D.int (heldS (v :: vs)), D.int (waitS (v :: vs))]] = h5 at *
        have Lt := L3'.keep0 F5
        simp [Lt.i]
        refine law_counts_ok hp C fun c h6 b f6 L6 => ?_
        have Lx6 := (Lx3.keep0 F5).keep0 f6
        refine law_visits_ok Lx6 (by omega) t1 st fun g' h7 f7 hg7 L7 => ?_
        have L7 : Ls h7 g' ((vrun (storyOf rows t)).map Visit.d) := L7
        rw [hv] at L7
        have L67 := L6.keep0 f7
        have vl : (v :: vs).length ≤ 1000000 := by
          have := vrun_len (storyOf rows t) (storyOf rows t).length
          rw [List.take_length, hv] at this
          have h9 : (storyOf rows t).length ≤ rows.length := List.length_filter_le _ _
          omega
        have gd : ∀ k, k < (v :: vs).length → ∃ u, (v :: vs)[k]? = some u ∧ Full u := fun k hk => ⟨_, List.getElem?_eq_getElem hk, hf _ (List.getElem_mem hk)⟩
        rw [← linS_range (v :: vs)]
        generalize v :: vs = V at *
        simp [L7.i]
        refine ⟨by omega, ?_⟩
        unfold rangeD
        simp
        refine wLc_mapM (dec := fun (k : Nat) => D.int k) (fun k : Nat => D.int (lin k (V[k]?.getD ⟨⟨#[]⟩, 0, none, none, none, false⟩))) (by simp; omega) (fun _ _ => trivial) (fun k h8 hk f8 => ?_) (fun h8 f8 L8 => ?_)
        · obtain ⟨u, eu, a, f, g, x1, x2, x3⟩ := gd k (List.mem_range.mp hk)
          have L78 := L7.keep0 f8
          simp [L78.i, eu, Visit.d, x1, optI, lin]
        have L8' : Ls h8 h7.length (((List.range V.length).map fun k => lin k (V[k]?.getD ⟨⟨#[]⟩, 0, none, none, none, false⟩)).map D.int) := by rw [List.map_map]; exact L8
        rw [sum_ints L8'.i, wO_some]
        generalize ((List.range V.length).map fun k => lin k (V[k]?.getD ⟨⟨#[]⟩, 0, none, none, none, false⟩)).sum = S at *
        have L68 := L67.keep0 f8
        have L78 := L7.keep0 f8
        simp [L68.i, L78.i, c4]
        refine wLc_pureM (fun u : Visit => true) (fun u => u.d) (by simp; omega) (fun h' f' => (L78.keep0 f').i) (fun u h9 hu f9 => ?_) (fun h9 f9 L9 => ?_)
        · obtain ⟨a, f, g, x1, x2, x3⟩ := hf u hu
          simp [Visit.d, x2, optI, isNotO, D.isNon]
        have L69 := L68.keep0 f9
        rw [List.filter_eq_self.mpr (by simp)] at L9
        simp [L9.i, L69.i, c4]
        rw [a1, a2, a3]
        refine alike_ok 11 _ _ _ rfl fun hA fA => ?_
        simp
        exact fin _ _ _ _ _ _ _ _ _ _ ((((f3.trans F5).trans f6).trans f7).trans ((f8.trans f9).trans fA))
    · obtain ⟨o2, o3, o7, o8, o9, o10, o11, o12, o13, o14, e, F⟩ := (hI _ _ _).mp Ij
      subst e
      refine ⟨(L2.keep0 F).i, ?_⟩
      simp
      exact (hJ _ _ _).mpr ⟨_, _, _, _, _, _, _, _, _, _, _, _, _, rfl, R2.keep F⟩
  · obtain ⟨o2, o3, o4, o5, o6, o7, o8, o9, o10, o11, o12, o13, o14, e, R⟩ := (hJ _ _ _).mp Jj
    subst e
    refine ⟨trivial, ?_⟩
    simp
end MP

theorem PySem.Challenge.cw_linesure_k25_whole_times_add_up_holds : PySem.Challenge.rw_linesure_k25_whole_times_add_up.Holds := by
  exact MP.law_from MP.law_k25
