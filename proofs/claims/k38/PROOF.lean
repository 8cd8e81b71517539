import PyProof.Rows.All
import Wide.All
import OpenK.AllK
import Wide.FinOn
import HandS.ForMost
import HandS.IsInst
import HandS.Deep
import HandS.TupAny
import HandS.TupMul
import HandS.SortInts
import HandS.Flow
import HandS.TupLe
import HandS.TryOnly
import HandS.Nested
import HandS.NestedK
import HandS.HeadHook4
import HandS.SetFor
import KE.GoesEnum
import KE.GoesMore
import HandS.MakeKwOnly
import HandS.DictComp
import KE.DataCmp
import HandS.Defaults
import HandS.Head0
import HandS.Head1
import HandS.Head2
import HandS.HeadEnd
import HandS.HeadHook1
import HandS.HeadHook2
import HandS.HeadHook3
import HandS.HeadWalk
import Lean
import PySem.Challenge.RW_linesure_k38_strikes_within_the_bound
/-! text Mini1 -/
set_option Elab.async false
set_option linter.all false
set_option maxRecDepth 100000
set_option maxHeartbeats 4000000
namespace MP
open PySem PySem.Spec PyProof.Rows L2

/-! ### plain data with places for what can change -/
inductive D where
  | non | bl (b : Bool) | int (i : Int) | str (x : Str) | tup (xs : List D) | loc (n : Nat) | gl (x : Str) | ty (n : String)

/-- a lambda's text: whose code it stands in, its own name's path, its parameters and the names that it captures -/
structure LamT where
  own : Str × Option Str
  qual : Str
  params : Arguments
  body : Expr
  scope : Scope
  ps : List Str
  fr : List Str
/-- what stands at a place -/
inductive AO where
  | lst (xs : List D)
  | frz (ns : List Int)
  /-- dicts: keys are ints and texts; tuples of them -/
  | dK (kvs : List (Key × D))
  | dT (kvs : List (List Key × D))
  /-- an instance of the module's class c -/
  | ins (c : Str) (fs : List (Str × D))
  /-- the table of code objects of the def p -/
  | tab (p : Str × Option Str) (q : Str)
  /-- a closure, what it captured -/
  | clo (t : LamT) (ws : List D)
  /-- a closure while it runs, or ahead of its being handed on -/
  | off
  | dead
abbrev Hs := List AO
abbrev Rho := List (Option D)
def AO.isF : AO → Bool
  | .lst _ => false
  | .dK _ => false
  | .dT _ => false
  | .ins _ _ => false
  | _ => true
/-- no two such places stand at one address -/
def AO.isU : AO → Bool
  | .lst _ => true
  | .dK _ => true
  | .dT _ => true
  | .ins _ _ => true
  | .clo _ _ => true
  | .off => true
  | .tab _ _ => true
  | _ => false
theorem AO.isU_of {o : AO} (h : o.isF = false) : o.isU = true := by cases o <;> first | rfl | cases h

/-- a tuple of the written part -/
def KTs (K : PySem.W.Frag) (a : Addr) (xs : List V) : Prop :=
  ∃ (o : Obj) (its : Array Value) (n : Nat), K.lookup a = some o ∧ o.cls = .type "tuple" ∧ o.data = .seq its n ∧ its.size ≤ sizeLine ∧ Vals xs its.toList
/-- a tuple that stays -/
def TupAt (K : PySem.W.Frag) (H : Hp) (a : Addr) (xs : List V) : Prop := H a = some (.tup xs) ∨ KTs K a xs
theorem TupAt.sq {K : PySem.W.Frag} {H : Hp} {a : Addr} {xs : List V} (t : TupAt K H a xs) : SqT K H a xs := by
  rcases t with t | t
  · exact .inl (.inl t)
  · exact .inr t
theorem TupAt.of {K : PySem.W.Frag} {H : Hp} {a : Addr} {xs : List V} (h : H a = some (.tup xs)) : TupAt K H a xs := .inl h
mutual
inductive RV (K : PySem.W.Frag) (H : Hp) (μ : List Addr) : D → V → Prop
  | non : RV K H μ .non .non
  | bl (b : Bool) : RV K H μ (.bl b) (.bl b)
  | int (i : Int) : RV K H μ (.int i) (.int i)
  | str (x : Str) : RV K H μ (.str x) (.str x)
  | tup {ds : List D} {a : Addr} {vs : List V} : TupAt K H a vs → RVs K H μ ds vs → RV K H μ (.tup ds) (.ref a)
  | loc {n : Nat} {a : Addr} : μ[n]? = some a → RV K H μ (.loc n) (.ref a)
  | gl (x : Str) : RV K H μ (.gl x) (.ref (He.ga K x))
  | ty (n : String) : RV K H μ (.ty n) (.ty n)
inductive RVs (K : PySem.W.Frag) (H : Hp) (μ : List Addr) : List D → List V → Prop
  | nil : RVs K H μ [] []
  | cons {d : D} {v : V} {ds : List D} {vs : List V} : RV K H μ d v → RVs K H μ ds vs → RVs K H μ (d :: ds) (v :: vs)
end

/-- what stays as it is -/
def Fix : HO → Prop
  | .tup _ => True
  | .own _ => True
  | .frz _ _ => True
  | .ext _ => True
  | _ => False
/-- what is written -/
def Wr : HO → Prop
  | .lst _ => True
  | .dK _ => True
  | .dT _ => True
  | .ins _ _ _ => True
  | _ => False
theorem Wr.mut {u : HO} (w : Wr u) : Mut (some u) := by cases u <;> first | exact w | exact w.elim
theorem Wr.nfix {u : HO} (w : Wr u) : ¬ Fix u := by cases u <;> first | exact w.elim | exact id
/-- what is fixed stays; places stay -/
structure Stp (K : PySem.W.Frag) (μ : List Addr) (H : Hp) (μ' : List Addr) (H' : Hp) : Prop where
  ext : ∀ (n : Nat) (a : Addr), μ[n]? = some a → μ'[n]? = some a
  st : ∀ a o, H a = some o → Fix o → H' a = some o
theorem Stp.kp {K : PySem.W.Frag} {μ μ' : List Addr} {H H' : Hp} (S : Stp K μ H μ' H') : ∀ a xs, TupAt K H a xs → TupAt K H' a xs := fun a xs t => t.imp (fun t => S.st _ _ t trivial) id
theorem Stp.refl (K : PySem.W.Frag) (μ : List Addr) (H : Hp) : Stp K μ H μ H := ⟨fun _ _ h => h, fun _ _ h _ => h⟩
theorem Stp.trans {K : PySem.W.Frag} {μ μ1 μ2 : List Addr} {H H1 H2 : Hp} (a : Stp K μ H μ1 H1) (b : Stp K μ1 H1 μ2 H2) : Stp K μ H μ2 H2 :=
  ⟨fun n x h => b.ext n x (a.ext n x h), fun x o h f => b.st x o (a.st x o h f) f⟩
section
variable {K : PySem.W.Frag} {μ μ' : List Addr} {H H' : Hp}
mutual
theorem RV.mono (S : Stp K μ H μ' H') : ∀ {d : D} {v : V}, RV K H μ d v → RV K H' μ' d v
  | _, _, .non => .non
  | _, _, .bl b => .bl b
  | _, _, .int i => .int i
  | _, _, .str x => .str x
  | _, _, .tup h r => .tup (S.kp _ _ h) (RVs.mono S r)
  | _, _, .loc h => .loc (S.ext _ _ h)
  | _, _, .gl x => .gl x
  | _, _, .ty n => .ty n
theorem RVs.mono (S : Stp K μ H μ' H') : ∀ {ds : List D} {vs : List V}, RVs K H μ ds vs → RVs K H' μ' ds vs
  | _, _, .nil => .nil
  | _, _, .cons h r => .cons (RV.mono S h) (RVs.mono S r)
end
theorem RVs.length : ∀ {ds : List D} {vs : List V}, RVs K H μ ds vs → ds.length = vs.length
  | _, _, .nil => rfl
  | _, _, .cons _ r => congrArg (· + 1) (RVs.length r)
theorem RVs.get : ∀ {ds : List D} {vs : List V} {i : Nat} {d : D}, RVs K H μ ds vs → ds[i]? = some d → ∃ v, vs[i]? = some v ∧ RV K H μ d v
  | _, _, _, _, .nil, e => by simp at e
  | _, _, 0, _, .cons r _, e => by simp at e; subst e; exact ⟨_, rfl, r⟩
  | _, _, i + 1, d, .cons _ t, e => by
    obtain ⟨u, h1, h2⟩ := RVs.get (i := i) (d := d) t (by simpa using e)
    exact ⟨u, by simpa using h1, h2⟩
theorem RVs.gets : ∀ {ds : List D} {vs : List V} {i : Nat} {v : V}, RVs K H μ ds vs → vs[i]? = some v → ∃ d, ds[i]? = some d ∧ RV K H μ d v
  | _, _, _, _, .nil, e => by simp at e
  | _, _, 0, _, .cons r _, e => by simp at e; subst e; exact ⟨_, rfl, r⟩
  | _, _, i + 1, v, .cons _ t, e => by
    obtain ⟨u, h1, h2⟩ := RVs.gets (i := i) (v := v) t (by simpa using e)
    exact ⟨u, by simpa using h1, h2⟩
theorem RVs.append : ∀ {ds es : List D} {vs us : List V}, RVs K H μ ds vs → RVs K H μ es us → RVs K H μ (ds ++ es) (vs ++ us)
  | _, _, _, _, .nil, s => s
  | _, _, _, _, .cons r t, s => .cons r (RVs.append t s)
theorem RVs.take : ∀ {ds : List D} {vs : List V} (n : Nat), RVs K H μ ds vs → RVs K H μ (ds.take n) (vs.take n)
  | _, _, 0, _ => by simpa using RVs.nil
  | _, _, _ + 1, .nil => .nil
  | _, _, n + 1, .cons r t => .cons r (RVs.take n t)
theorem RVs.drop : ∀ {ds : List D} {vs : List V} (n : Nat), RVs K H μ ds vs → RVs K H μ (ds.drop n) (vs.drop n)
  | _, _, 0, r => r
  | _, _, _ + 1, .nil => .nil
  | _, _, n + 1, .cons _ t => RVs.drop n t
theorem RVs.set {d : D} {v : V} (r : RV K H μ d v) : ∀ {ds : List D} {vs : List V} (i : Nat), RVs K H μ ds vs → RVs K H μ (ds.set i d) (vs.set i v)
  | _, _, _, .nil => .nil
  | _, _, 0, .cons _ t => .cons r t
  | _, _, i + 1, .cons q t => .cons q (RVs.set r i t)
theorem RVs.eraseIdx : ∀ {ds : List D} {vs : List V} (i : Nat), RVs K H μ ds vs → RVs K H μ (ds.eraseIdx i) (vs.eraseIdx i)
  | _, _, _, .nil => .nil
  | _, _, 0, .cons _ t => t
  | _, _, i + 1, .cons q t => .cons q (RVs.eraseIdx i t)
theorem RVs.dropLast {ds : List D} {vs : List V} (r : RVs K H μ ds vs) : RVs K H μ ds.dropLast vs.dropLast := by
  rw [List.dropLast_eq_take, List.dropLast_eq_take, r.length]
  exact r.take _
theorem RVs.reverse : ∀ {ds : List D} {vs : List V}, RVs K H μ ds vs → RVs K H μ ds.reverse vs.reverse
  | _, _, .nil => .nil
  | _, _, .cons q t => by
    rw [List.reverse_cons, List.reverse_cons]
    exact (RVs.reverse t).append (.cons q .nil)
theorem RVs.nil_iff {ds : List D} {vs : List V} (r : RVs K H μ ds vs) : vs = [] ↔ ds = [] := by
  cases r with
  | nil => exact ⟨fun _ => rfl, fun _ => rfl⟩
  | cons _ _ => exact ⟨(fun e => nomatch e), (fun e => nomatch e)⟩
theorem RVs.rep {ds : List D} {vs : List V} (r : RVs K H μ ds vs) : ∀ k : Nat, RVs K H μ (List.replicate k ds).flatten (List.replicate k vs).flatten
  | 0 => .nil
  | k + 1 => by
    rw [List.replicate_succ, List.replicate_succ, List.flatten_cons, List.flatten_cons]
    exact r.append (RVs.rep r k)
theorem RVs.ints : ∀ ns : List Int, RVs K H μ (ns.map D.int) (ns.map V.int)
  | [] => .nil
  | n :: r => .cons (.int n) (RVs.ints r)
theorem RVs.of_ints : ∀ {ns : List Int} {vs : List V}, RVs K H μ (ns.map D.int) vs → vs = ns.map V.int
  | [], _, .nil => rfl
  | n :: r, _, .cons (.int _) t => by rw [RVs.of_ints t]; rfl
theorem RVs.of_strs : ∀ {ns : List Str} {vs : List V}, RVs K H μ (ns.map D.str) vs → vs = ns.map V.str
  | [], _, .nil => rfl
  | n :: r, _, .cons (.str _) t => by rw [RVs.of_strs t]; rfl
theorem RVs.strs : ∀ ns : List Str, RVs K H μ (ns.map D.str) (ns.map V.str)
  | [] => .nil
  | n :: r => .cons (.str n) (RVs.strs r)
theorem RVs.of_bls : ∀ {ns : List Bool} {vs : List V}, RVs K H μ (ns.map D.bl) vs → vs = ns.map V.bl
  | [], _, .nil => rfl
  | n :: r, _, .cons (.bl _) t => by rw [RVs.of_bls t]; rfl
end

/-! ### the heap's relation -/
/-- a list of the written part -/
def KLs (K : PySem.W.Frag) (a : Addr) (xs : List V) : Prop :=
  ∃ (o : Obj) (its : Array Value) (n : Nat), K.lookup a = some o ∧ o.cls = .type "list" ∧ o.dict = none ∧ o.data = .seq its n ∧ its.size ≤ sizeLine ∧ Vals xs its.toList
/-- a cell that is known for now, by the closure at a -/
def CellF (H : Hp) (a c : Addr) (v : Option Value) : Prop := ∃ o, H c = some (.frz o (.own a)) ∧ o.data = .cell v
/-- the cells that a closure captured -/
structure CloC (K : PySem.W.Frag) (H : Hp) (μ : List Addr) (a : Addr) (cl : List (Str × Addr)) (fr : List Str) (ws : List D) : Prop where
  all : ∀ y c, cl.lookup y = some c → ∃ v, CellF H a c v
  inj : ∀ x y c, cl.lookup x = some c → cl.lookup y = some c → x = y
  has : ∃ vs, fr.length = vs.length ∧ RVs K H μ ws vs ∧ ∀ (i : Nat) (y : Str) (v : V), fr[i]? = some y → vs[i]? = some v → ∃ c u, cl.lookup y = some c ∧ RelV v u ∧ CellF H a c (some u)
abbrev LamT.obj (t : LamT) (cl : List (Str × Addr)) (pm : Value) (c : Addr) (ctv : Value) : Obj := PySem.W.kla_obj "<lambda>" t.qual t.params t.body t.scope cl pm c ctv
structure CloAt (K : PySem.W.Frag) (H : Hp) (μ : List Addr) (a : Addr) (t : LamT) (ws : List D) (cl : List (Str × Addr)) (pm : Value) (c : Addr) (ctv : Value) : Prop where
  fn : H a = some (.frz (t.obj cl pm c ctv) (.frz (t.obj cl pm c ctv) (.own 0)))
  code : H c = some (LamX.CodeO c t.qual)
  cells : CloC K H μ a cl t.fr ws
def RO (K : PySem.W.Frag) (H : Hp) (μ : List Addr) (a : Addr) : AO → Prop
  | .lst ds => ∃ vs, H a = some (.lst vs) ∧ RVs K H μ ds vs
  | .frz ns => (∃ o, H a = some (.frz o (.lst (ns.map V.int)))) ∨ KLs K a (ns.map V.int)
  | .dK kvs => ∃ vs, H a = some (.dK ((kvs.map Prod.fst).zip vs)) ∧ RVs K H μ (kvs.map Prod.snd) vs
  | .dT kvs => ∃ vs, H a = some (.dT ((kvs.map Prod.fst).zip vs)) ∧ RVs K H μ (kvs.map Prod.snd) vs
  | .ins c fs => ∃ dx vs, H a = some (.ins (He.ga K c) dx ((fs.map Prod.fst).zip vs)) ∧ H dx = some (.own a) ∧ RVs K H μ (fs.map Prod.snd) vs
  | .tab p q => a = (He.cT K p).2 ∧ LamX.TabS H a q
  | .clo t ws => ∃ cl pm c ctv, CloAt K H μ a t ws cl pm c ctv
  | .off => ∃ o u, H a = some (.frz o (.frz o u))
  | .dead => True

structure Rel (K : PySem.W.Frag) (μ : List Addr) (h : Hs) (H : Hp) : Prop where
  len : μ.length = h.length
  inj : ∀ (n m : Nat) (a : Addr) (o o' : AO), μ[n]? = some a → μ[m]? = some a → h[n]? = some o → h[m]? = some o' → o.isU = true → o'.isU = true → n = m
  obj : ∀ (n : Nat) (a : Addr) (o : AO), μ[n]? = some a → h[n]? = some o → RO K H μ a o

section
variable {K : PySem.W.Frag} {μ μ' : List Addr} {h : Hs} {H H' : Hp} {n : Nat} {a : Addr} {o o' : AO} {u u' : HO}
theorem RO.mutb (r : RO K H μ a o) (hf : o.isF = false) : ∃ u, H a = some u ∧ Wr u := by
  cases o with
  | lst xs => obtain ⟨vs, e, _⟩ := r; exact ⟨_, e, trivial⟩
  | dK xs => obtain ⟨vs, e, _⟩ := r; exact ⟨_, e, trivial⟩
  | dT xs => obtain ⟨vs, e, _⟩ := r; exact ⟨_, e, trivial⟩
  | ins c xs => obtain ⟨dx, vs, e, _⟩ := r; exact ⟨_, e, trivial⟩
  | _ => cases hf
theorem RO.atU (r : RO K H μ a o) (hf : o.isU = true) : ∃ u, H a = some u := by
  cases o with
  | lst xs => obtain ⟨vs, e, _⟩ := r; exact ⟨_, e⟩
  | dK xs => obtain ⟨vs, e, _⟩ := r; exact ⟨_, e⟩
  | dT xs => obtain ⟨vs, e, _⟩ := r; exact ⟨_, e⟩
  | ins c xs => obtain ⟨dx, vs, e, _⟩ := r; exact ⟨_, e⟩
  | clo t ws => obtain ⟨cl, pm, c, ctv, x⟩ := r; exact ⟨_, x.fn⟩
  | off => obtain ⟨o, u, e⟩ := r; exact ⟨_, e⟩
  | tab p q => obtain ⟨_, ps, e, _⟩ := r; exact ⟨_, e⟩
  | _ => cases hf
theorem TupAt.upd_mut {b : Addr} {xs : List V} (e : H a = some u) (m : Wr u) (t : TupAt K H b xs) : TupAt K (L2.upd H a u') b xs := by
  rcases t with t | t
  · refine .inl ?_
    rw [upd_ne]
    · exact t
    · rintro rfl
      rw [e] at t; cases t; exact m
  · exact .inr t
theorem TupAt.upd_new {b : Addr} {xs : List V} (e : H a = none) (t : TupAt K H b xs) : TupAt K (L2.upd H a u') b xs := by
  rcases t with t | t
  · refine .inl ?_
    rw [upd_ne (ne_of_none t e)]
    exact t
  · exact .inr t
theorem CellF.stay {a c : Addr} {v : Option Value} (st : ∀ a o, H a = some o → Fix o → H' a = some o) (x : CellF H a c v) : CellF H' a c v := let ⟨o, e, d⟩ := x; ⟨o, st _ _ e trivial, d⟩
theorem CloC.stay {a : Addr} {cl : List (Str × Addr)} {fr : List Str} {ws : List D} (S : Stp K μ H μ' H') (x : CloC K H μ a cl fr ws) : CloC K H' μ' a cl fr ws where
  all := fun y c e => let ⟨v, z⟩ := x.all y c e; ⟨v, z.stay S.st⟩
  inj := x.inj
  has := let ⟨vs, e, r, z⟩ := x.has; ⟨vs, e, r.mono S, fun i y v a b => let ⟨c, u, p, rv, q⟩ := z i y v a b; ⟨c, u, p, rv, q.stay S.st⟩⟩
/-- other objects stay as they are told -/
theorem RO.stay {b : Addr} {q : AO} (S : Stp K μ H μ' H') (r : RO K H μ b q) (hb : H' b = H b) : RO K H' μ' b q := by
  cases q with
  | lst xs => obtain ⟨vs, e, rr⟩ := r; exact ⟨vs, by rw [hb]; exact e, rr.mono S⟩
  | dK xs => obtain ⟨vs, e, rr⟩ := r; exact ⟨vs, by rw [hb]; exact e, rr.mono S⟩
  | dT xs => obtain ⟨vs, e, rr⟩ := r; exact ⟨vs, by rw [hb]; exact e, rr.mono S⟩
  | ins c xs => obtain ⟨dx, vs, e, ed, rr⟩ := r; exact ⟨dx, vs, by rw [hb]; exact e, S.st _ _ ed trivial, rr.mono S⟩
  | frz ns =>
    rcases r with ⟨o, t⟩ | t
    · exact .inl ⟨o, by rw [hb]; exact t⟩
    · exact .inr t
  | tab p q =>
    obtain ⟨e0, ps, e1, e2, e3⟩ := r
    exact ⟨e0, ps, by rw [hb]; exact e1, e2, fun pos cv hc => let ⟨c, z, z'⟩ := e3 pos cv hc; ⟨c, z, S.st _ _ z' trivial⟩⟩
  | clo t ws =>
    obtain ⟨cl, pm, c, ctv, x⟩ := r
    exact ⟨cl, pm, c, ctv, S.st _ _ x.fn trivial, S.st _ _ x.code trivial, x.cells.stay S⟩
  | off => obtain ⟨o, u, e⟩ := r; exact ⟨o, u, S.st _ _ e trivial⟩
  | dead => trivial
theorem Stp.upd (e : H a = some u) (m : Wr u) : Stp K μ H μ (L2.upd H a u') := ⟨fun _ _ q => q, fun b o t f => by
  rw [upd_ne]
  · exact t
  · rintro rfl
    rw [e] at t
    cases t
    exact m.nfix f⟩
theorem Stp.new (e : H a = none) : Stp K μ H (μ ++ [a]) (L2.upd H a u') :=
  ⟨fun n x q => by
    have hn : n < μ.length := (List.getElem?_eq_some_iff.mp q).1
    rw [List.getElem?_append_left hn]
    exact q, fun b o t _ => by rw [upd_ne (ne_of_none t e)]; exact t⟩
/-- the heap grows by a thing that is not told (a tuple) -/
theorem Stp.newT (e : H a = none) : Stp K μ H μ (L2.upd H a u') := ⟨fun _ _ q => q, fun b o t _ => by rw [upd_ne (ne_of_none t e)]; exact t⟩
/-- what is told stands somewhere, but for a list that may be of the written part -/
theorem RO.at_new {b : Addr} {q : AO} (r : RO K H μ b q) (e : H a = none) : L2.upd H a u' b = H b ∨ q = .dead ∨ ∃ ns, q = .frz ns ∧ KLs K b (ns.map V.int) := by
  cases q with
  | lst xs => obtain ⟨vs, z, _⟩ := r; exact .inl (upd_ne (ne_of_none z e))
  | dK xs => obtain ⟨vs, z, _⟩ := r; exact .inl (upd_ne (ne_of_none z e))
  | dT xs => obtain ⟨vs, z, _⟩ := r; exact .inl (upd_ne (ne_of_none z e))
  | ins c xs => obtain ⟨dx, vs, z, _⟩ := r; exact .inl (upd_ne (ne_of_none z e))
  | frz ns =>
    rcases r with ⟨o, z⟩ | t
    · exact .inl (upd_ne (ne_of_none z e))
    · exact .inr (.inr ⟨ns, rfl, t⟩)
  | tab p q => obtain ⟨_, ps, z, _⟩ := r; exact .inl (upd_ne (ne_of_none z e))
  | clo t ws => obtain ⟨cl, pm, c, ctv, x⟩ := r; exact .inl (upd_ne (ne_of_none x.fn e))
  | off => obtain ⟨o, u, z⟩ := r; exact .inl (upd_ne (ne_of_none z e))
  | dead => exact .inr (.inl rfl)
theorem RO.new {b : Addr} {q : AO} (S : Stp K μ H μ' (L2.upd H a u')) (r : RO K H μ b q) (e : H a = none) : RO K (L2.upd H a u') μ' b q := by
  rcases r.at_new (u' := u') e with z | z | ⟨ns, z, t⟩
  · exact r.stay S z
  · subst z; trivial
  · subst z; exact .inr t
/-- a place is written -/
theorem Rel.write (R : Rel K μ h H) (hn : h[n]? = some o) (hf : o.isF = false) (ha : μ[n]? = some a) (hf' : o'.isF = false)
    (new : ∀ u, H a = some u → Wr u → RO K (L2.upd H a u') μ a o') : Rel K μ (h.set n o') (L2.upd H a u') ∧ Stp K μ H μ (L2.upd H a u') := by
  obtain ⟨u, e, m⟩ := (R.obj n a o ha hn).mutb hf
  have S : Stp K μ H μ (L2.upd H a u') := Stp.upd e m
  have hlt : n < h.length := (List.getElem?_eq_some_iff.mp hn).1
  have sel : ∀ (k : Nat) (q : AO), (h.set n o')[k]? = some q → (k = n ∧ q = o') ∨ (k ≠ n ∧ h[k]? = some q) := fun k q hq => by
    by_cases hk : k = n
    · subst hk
      rw [List.getElem?_set_self hlt] at hq
      exact .inl ⟨rfl, (Option.some.inj hq).symm⟩
    · rw [List.getElem?_set_ne (Ne.symm hk)] at hq
      exact .inr ⟨hk, hq⟩
  refine ⟨⟨by rw [List.length_set]; exact R.len, fun i j x q q' hi hj hqi hqj fi fj => ?_, fun k b q hb hq => ?_⟩, S⟩
  · rcases sel i q hqi with ⟨ei, eq1⟩ | ⟨ni, hqi'⟩ <;> rcases sel j q' hqj with ⟨ej, eq2⟩ | ⟨nj, hqj'⟩
    · rw [ei, ej]
    · rw [ei] at hi ⊢
      exact R.inj _ _ _ _ _ hi hj hn hqj' (AO.isU_of hf) fj
    · rw [ej] at hj ⊢
      exact R.inj _ _ _ _ _ hi hj hqi' hn fi (AO.isU_of hf)
    · exact R.inj _ _ _ _ _ hi hj hqi' hqj' fi fj
  · rcases sel k q hq with ⟨rfl, rfl⟩ | ⟨nk, hq⟩
    · rw [ha] at hb; cases hb
      exact new u e m
    · have r := R.obj k b q hb hq
      cases hq' : q.isF with
      | false => exact r.stay S (upd_ne fun z => nk (R.inj _ _ _ _ _ (z ▸ hb) ha hq hn (AO.isU_of hq') (AO.isU_of hf)))
      | true =>
        have ne : ∀ o, H b = some o → ¬ Wr o → b ≠ a := fun o z w q => by
          subst q
          rw [e] at z
          cases z
          exact w m
        cases q with
        | frz ns =>
          rcases r with ⟨o1, t⟩ | t
          · exact .inl ⟨o1, by rw [upd_ne (ne _ t id)]; exact t⟩
          · exact .inr t
        | tab p q =>
          refine RO.stay S r (upd_ne ?_)
          obtain ⟨_, ps, z, _⟩ := r
          exact ne _ z id
        | clo t ws =>
          refine RO.stay S r (upd_ne ?_)
          obtain ⟨cl, pm, c, ctv, x⟩ := r
          exact ne _ x.fn id
        | off =>
          refine RO.stay S r (upd_ne ?_)
          obtain ⟨o, u, z⟩ := r
          exact ne _ z id
        | dead => trivial
        | _ => cases hq'
/-- a new place -/
theorem Rel.alloc (R : Rel K μ h H) (e : H a = none) (new : RO K (L2.upd H a u') (μ ++ [a]) a o') : Rel K (μ ++ [a]) (h ++ [o']) (L2.upd H a u') ∧ Stp K μ H (μ ++ [a]) (L2.upd H a u') := by
  have S : Stp K μ H (μ ++ [a]) (L2.upd H a u') := Stp.new e
  have sel : ∀ (k : Nat) (b : Addr) (q : AO), (μ ++ [a])[k]? = some b → (h ++ [o'])[k]? = some q → (k = h.length ∧ b = a ∧ q = o') ∨ (μ[k]? = some b ∧ h[k]? = some q) := fun k b q hb hq => by
    by_cases hk : k < h.length
    · rw [List.getElem?_append_left hk] at hq
      rw [List.getElem?_append_left (by rw [R.len]; exact hk)] at hb
      exact .inr ⟨hb, hq⟩
    · have hk2 : k < (h ++ [o']).length := (List.getElem?_eq_some_iff.mp hq).1
      rw [List.length_append, List.length_singleton] at hk2
      have hk3 : k = h.length := by omega
      subst hk3
      rw [List.getElem?_append_right (Nat.le_refl _), Nat.sub_self] at hq
      rw [List.getElem?_append_right (by rw [R.len]; exact Nat.le_refl _), R.len, Nat.sub_self] at hb
      exact .inl ⟨rfl, (Option.some.inj hb).symm, (Option.some.inj hq).symm⟩
  refine ⟨⟨by simp [R.len], fun i j x q q' hi hj hqi hqj fi fj => ?_, fun k b q hb hq => ?_⟩, S⟩
  · rcases sel i x q hi hqi with ⟨ei, ex, _⟩ | ⟨hi', hqi'⟩ <;> rcases sel j x q' hj hqj with ⟨ej, hx, _⟩ | ⟨hj', hqj'⟩
    · rw [ei, ej]
    · obtain ⟨u, eu⟩ := (R.obj j x q' hj' hqj').atU fj
      rw [ex, e] at eu; cases eu
    · obtain ⟨u, eu⟩ := (R.obj i x q hi' hqi').atU fi
      rw [hx, e] at eu; cases eu
    · exact R.inj _ _ _ _ _ hi' hj' hqi' hqj' fi fj
  · rcases sel k b q hb hq with ⟨_, rfl, rfl⟩ | ⟨hb', hq'⟩
    · exact new
    · exact RO.new S (R.obj k b q hb' hq') e
theorem Rel.allocT (R : Rel K μ h H) (e : H a = none) : Rel K μ h (L2.upd H a u') ∧ Stp K μ H μ (L2.upd H a u') :=
  have S : Stp K μ H μ (L2.upd H a u') := Stp.newT e
  ⟨⟨R.len, R.inj, fun n b o hb ho => RO.new S (R.obj n b o hb ho) e⟩, S⟩
end
end MP

/-! text Mini2 -/
set_option Elab.async false
set_option linter.all false
set_option maxRecDepth 100000
set_option maxHeartbeats 4000000
namespace MP
open PySem PySem.Spec PyProof.Rows L2

/-! ### operations on values -/
abbrev O1 := D → Hs → Option (D × Hs)
abbrev O2 := D → D → Hs → Option (D × Hs)
abbrev ON := List D → Hs → Option (D × Hs)

/-- what an operation promises to who asks over the abstract heap -/
def After (K : PySem.W.Frag) (μ : List Addr) (H : Hp) (d : D) (h' : Hs) (Q : VK) : Prop :=
  ∀ (μ' : List Addr) (H' : Hp) (v : V), Rel K μ' h' H' → Stp K μ H μ' H' → RV K H' μ' d v → Q v H'
def g1 (K : PySem.W.Frag) (g : O1) : V → Hp → VK → Prop := fun vx H Q => ∃ μ h x d h', Rel K μ h H ∧ RV K H μ x vx ∧ g x h = some (d, h') ∧ After K μ H d h' Q
def g2 (K : PySem.W.Frag) (g : O2) : R2 := fun vx vy H Q => ∃ μ h x y d h', Rel K μ h H ∧ RV K H μ x vx ∧ RV K H μ y vy ∧ g x y h = some (d, h') ∧ After K μ H d h' Q
def gN (K : PySem.W.Frag) (g : ON) : List V → Hp → VK → Prop := fun vs H Q => ∃ μ h ds d h', Rel K μ h H ∧ RVs K H μ ds vs ∧ g ds h = some (d, h') ∧ After K μ H d h' Q

section
variable {K : PySem.W.Frag} {μ : List Addr} {h : Hs} {H : Hp} {d : D} {h' : Hs} {Q : VK}
/-- a value, nothing made -/
theorem After.val (k : After K μ H d h Q) (R : Rel K μ h H) {v : V} (r : RV K H μ d v) : Q v H := k μ H v R (Stp.refl K μ H) r
/-- a new tuple -/
theorem After.newT {ds : List D} {vs : List V} (k : After K μ H (.tup ds) h Q) (R : Rel K μ h H) (r : RVs K H μ ds vs) : ∀ p, H p = none → Q (.ref p) (upd H p (.tup vs)) := fun p hp => by
  obtain ⟨R', S⟩ := R.allocT (u' := .tup vs) hp
  exact k μ _ _ R' S (.tup (TupAt.of upd_same) (r.mono S))
/-- a new list -/
theorem After.newL {ds : List D} {vs : List V} (k : After K μ H (.loc h.length) (h ++ [.lst ds]) Q) (R : Rel K μ h H) (r : RVs K H μ ds vs) : ∀ p, H p = none → Q (.ref p) (upd H p (.lst vs)) := fun p hp => by
  obtain ⟨R', S⟩ := R.alloc (u' := .lst vs) (o' := .lst ds) hp ⟨vs, upd_same, r.mono (Stp.new hp)⟩
  refine k _ _ _ R' S (.loc ?_)
  rw [List.getElem?_append_right (by rw [R.len]; exact Nat.le_refl _), R.len, Nat.sub_self]
  rfl
/-- a list is written -/
theorem After.wr {n : Nat} {a : Addr} {xs ds : List D} {vs : List V} (k : After K μ H d (h.set n (.lst ds)) Q) (R : Rel K μ h H) (hn : h[n]? = some (.lst xs)) (ha : μ[n]? = some a) (r : RVs K H μ ds vs) {v : V} (rv : RV K H μ d v) :
    Q v (upd H a (.lst vs)) := by
  obtain ⟨R', S⟩ := R.write (u' := .lst vs) (o' := .lst ds) hn rfl ha rfl fun u e m => ⟨vs, upd_same, r.mono (Stp.upd e m)⟩
  exact k _ _ _ R' S (rv.mono S)
theorem Rel.lst {n : Nat} {a : Addr} {xs : List D} (R : Rel K μ h H) (hn : h[n]? = some (.lst xs)) (ha : μ[n]? = some a) : ∃ vs, H a = some (.lst vs) ∧ RVs K H μ xs vs := R.obj n a _ ha hn
theorem Rel.frz {n : Nat} {a : Addr} {ns : List Int} (R : Rel K μ h H) (hn : h[n]? = some (.frz ns)) (ha : μ[n]? = some a) : SqL K H a (ns.map V.int) := by
  rcases R.obj n a _ ha hn with ⟨o, e⟩ | e
  · exact .inl (.inr ⟨o, e⟩)
  · exact .inr e
end

/-- the items of a list, whether it may be written or not -/
def itemsAt (h : Hs) (n : Nat) : Option (List D) := match h[n]? with
  | some (.lst xs) => some xs
  | some (.frz ns) => some (ns.map D.int)
  | _ => none
theorem itemsAt_ok {K : PySem.W.Frag} {μ : List Addr} {h : Hs} {H : Hp} {n : Nat} {a : Addr} {xs : List D} (R : Rel K μ h H) (hn : itemsAt h n = some xs) (ha : μ[n]? = some a) : ∃ vs, SqL K H a vs ∧ RVs K H μ xs vs := by
  unfold itemsAt at hn
  split at hn
  · rename_i ys e
    cases hn
    obtain ⟨vs, e1, r⟩ := R.lst e ha
    exact ⟨vs, SqL.of e1, r⟩
  · rename_i ns e
    cases hn
    exact ⟨_, R.frz e ha, RVs.ints ns⟩
  · cases hn
theorem Rel.at {K : PySem.W.Frag} {μ : List Addr} {h : Hs} {H : Hp} {n : Nat} {o : AO} (R : Rel K μ h H) (hn : h[n]? = some o) : ∃ a, μ[n]? = some a := by
  have hlt : n < μ.length := by rw [R.len]; exact (List.getElem?_eq_some_iff.mp hn).1
  exact ⟨μ[n], List.getElem?_eq_getElem hlt⟩
theorem RV.loc_at {K : PySem.W.Frag} {H : Hp} {μ : List Addr} {n : Nat} {v : V} (r : RV K H μ (.loc n) v) : ∃ a, v = .ref a ∧ μ[n]? = some a := by
  cases r with
  | loc e => exact ⟨_, rfl, e⟩

/-! ### arithmetic -/
def addD : O2 := fun x y h => match x, y with
  | .int i, .int j => some (.int (i + j), h)
  | .int i, .bl k => some (.int (i + b2i k), h)
  | .str a, .str b => if a.length + b.length ≤ sizeLine then some (.str (a ++ b), h) else none
  | .tup xs, .tup ys => if xs.length + ys.length ≤ sizeLine then some (.tup (xs ++ ys), h) else none
  | .loc l, .loc m => match h[l]?, h[m]? with
    | some (.lst xs), some (.lst ys) => if xs.length + ys.length ≤ sizeLine then some (.loc h.length, h ++ [.lst (xs ++ ys)]) else none
    | _, _ => none
  | _, _ => none
def subD : O2 := fun x y h => match x, y with
  | .int i, .int j => some (.int (i - j), h)
  | _, _ => none
def smul (i j : Int) : Bool := (decide (-(2 ^ 64) < i) && decide (i < 2 ^ 64)) || (decide (-(2 ^ 64) < j) && decide (j < 2 ^ 64))
def mulD : O2 := fun x y h => match x, y with
  | .int i, .int j => if smul i j = true then some (.int (i * j), h) else none
  | .str a, .int j => if a.length ≤ 1000 ∧ -1000 ≤ j ∧ j ≤ 1000 then some (.str (Txt.mul a j), h) else none
  | .loc l, .int j => match h[l]? with
    | some (.lst xs) => if -1000 ≤ j ∧ j ≤ 1000 ∧ xs.length ≤ 1000 then some (.loc h.length, h ++ [.lst (List.replicate j.toNat xs).flatten]) else none
    | _ => none
  | .tup xs, .int j => if xs ≠ [] ∧ 2 ≤ j ∧ j ≤ 1000 ∧ xs.length ≤ 1000 then some (.tup (List.replicate j.toNat xs).flatten, h) else none
  | _, _ => none
def modD : O2 := fun x y h => match x, y with
  | .int i, .int j => if 0 < j then some (.int (i % j), h) else none
  | _, _ => none
def fdivD : O2 := fun x y h => match x, y with
  | .int i, .int j => if 0 < j ∧ j < 1073741824 then some (.int (i / j), h) else none
  | _, _ => none
def powD : O2 := fun x y h => match x, y with
  | .int i, .int j => if 0 ≤ j ∧ j ≤ 1000000 ∧ i.natAbs < 2 ^ 64 then some (.int (i ^ j.toNat), h) else none
  | _, _ => none

section
variable {X : Cx}
theorem OpR.imp {f : Value → Value → Sem Value} {r r' : R2} (o : OpR X f r) (i : ∀ x y H Q, r' x y H Q → r x y H Q) : OpR X f r' :=
  fun pins s σ H x y v u Q I rx ry q => o pins s σ H x y v u Q I rx ry (i x y H Q q)
/-- a rule by its readings, case by case -/
theorem op_of {f : Value → Value → Sem Value} {g : O2}
    (c : ∀ μ h H x y d h' vx vy Q, Rel X.K μ h H → RV X.K H μ x vx → RV X.K H μ y vy → g x y h = some (d, h') → After X.K μ H d h' Q → ∃ r, OpR X f r ∧ r vx vy H Q) : OpR X f (g2 X.K g) :=
  fun pins s σ H x y v u Q I rx ry ⟨μ, h, dx, dy, d, h', R, r1, r2, e, k⟩ => by
    obtain ⟨r, o, q⟩ := c μ h H dx dy d h' x y Q R r1 r2 e k
    exact o pins s σ H x y v u Q I rx ry q
theorem add_ok : OpR X (binaryOp .Add) (g2 X.K addD) := op_of fun μ h H x y d h' vx vy Q R r1 r2 e k => by
  unfold addD at e
  split at e
  · cases e; cases r1; cases r2
    exact ⟨_, op_add, _, _, rfl, rfl, k.val R (.int _)⟩
  · cases e; cases r1; cases r2
    exact ⟨_, op_add_ib, _, _, rfl, rfl, k.val R (.int _)⟩
  · split at e
    · cases e; cases r1; cases r2
      rename_i hz
      exact ⟨_, op_add_str, _, _, rfl, rfl, hz, k.val R (.str _)⟩
    · cases e
  · split at e
    · cases e
      rename_i hz
      cases r1 with
      | tup t1 s1 =>
        cases r2 with
        | tup t2 s2 =>
          refine ⟨_, op_catA, _, _, _, _, rfl, rfl, t1.sq, t2.sq, by rw [← s1.length, ← s2.length]; exact hz, fun e1 => ?_, fun e1 e2 => ?_, fun _ _ => k.newT R (s1.append s2)⟩
          · have := s1.nil_iff.mp e1
            subst this
            exact k.val R (.tup t2 s2)
          · have := s2.nil_iff.mp e2
            subst this
            rw [List.append_nil] at k
            exact k.val R (.tup t1 s1)
    · cases e
  · split at e
    · split at e
      · cases e
        rename_i l m xs ys e1 e2 hz
        obtain ⟨a, rfl, ha⟩ := r1.loc_at
        obtain ⟨b, rfl, hb⟩ := r2.loc_at
        obtain ⟨vs, h1, s1⟩ := R.lst e1 ha
        obtain ⟨us, h2, s2⟩ := R.lst e2 hb
        exact ⟨_, op_cat, a, b, vs, us, rfl, rfl, h1, h2, by rw [← s1.length, ← s2.length]; exact hz, k.newL R (s1.append s2)⟩
      · cases e
    · cases e
  · cases e
theorem sub_ok : OpR X (binaryOp .Sub) (g2 X.K subD) := op_of fun μ h H x y d h' vx vy Q R r1 r2 e k => by
  unfold subD at e
  split at e
  · cases e; cases r1; cases r2
    exact ⟨_, op_sub, _, _, rfl, rfl, k.val R (.int _)⟩
  · cases e
theorem smul_ok {i j : Int} (h : smul i j = true) : CMul i j := by
  unfold smul at h
  rw [Bool.or_eq_true, Bool.and_eq_true, Bool.and_eq_true] at h
  rcases h with ⟨a, b⟩ | ⟨a, b⟩
  · exact .inl ⟨of_decide_eq_true a, of_decide_eq_true b⟩
  · exact .inr ⟨of_decide_eq_true a, of_decide_eq_true b⟩
theorem op_mul_str : OpR X (binaryOp .Mult) (fun x y H Q => ∃ a j, x = .str a ∧ y = .int j ∧ MulOk a j ∧ Q (.str (Txt.mul a j)) H) := by
  intro pins s σ H x y v u Q I rx ry h
  obtain ⟨a, j, rfl, rfl, hm, q⟩ := h
  obtain ⟨t, rfl⟩ := rx
  obtain ⟨t', rfl⟩ := ry
  exact SB.mul hm fun t' k => ⟨.str _, H, I.tok _, ⟨_, rfl⟩, q⟩
theorem mulOk_small {a : Str} {j : Int} (h1 : a.length ≤ 1000) (h2 : -1000 ≤ j) (h3 : j ≤ 1000) : MulOk a j := by
  have hp : ∀ n : Int, 1 ≤ n → n ≤ 1000 → ¬ ((a.length : Int) > (2 ^ 63 - 1) / n) := fun n g1 g2 z => by
    have e : (1000 : Int) ≤ (2 ^ 63 - 1) / n := by
      rw [Int.le_ediv_iff_mul_le (by omega)]
      have : 1000 * n ≤ 1000 * 1000 := by omega
      exact Int.le_trans this (by decide)
    omega
  refine ⟨?_, fun g _ => hp j (by omega) h3, fun g _ => ?_⟩
  · rw [Bool.or_eq_false_iff]
    exact ⟨decide_eq_false (by omega), decide_eq_false (by omega)⟩
  · refine decide_eq_false (Nat.not_lt.mpr ?_)
    refine Nat.le_trans (Nat.mul_le_mul h1 (show j.toNat ≤ 1000 by omega)) ?_
    rw [sizeLine_eq]; decide
theorem mul_ok : OpR X (binaryOp .Mult) (g2 X.K mulD) := op_of fun μ h H x y d h' vx vy Q R r1 r2 e k => by
  unfold mulD at e
  split at e
  · split at e
    · cases e; cases r1; cases r2
      rename_i hz
      exact ⟨_, op_mul, _, _, rfl, rfl, smul_ok hz, k.val R (.int _)⟩
    · cases e
  · split at e
    · cases e; cases r1; cases r2
      rename_i hz
      exact ⟨_, op_mul_str, _, _, rfl, rfl, mulOk_small hz.1 hz.2.1 hz.2.2, k.val R (.str _)⟩
    · cases e
  · split at e
    · split at e
      · cases e
        rename_i e1 hz
        obtain ⟨a, rfl, ha⟩ := r1.loc_at
        cases r2
        obtain ⟨vs, h1, s1⟩ := R.lst e1 ha
        refine ⟨_, op_rep, a, _, vs, rfl, rfl, h1, by omega, by omega, ?_, k.newL R (s1.rep _)⟩
        rw [← s1.length]
        refine Nat.le_trans (Nat.mul_le_mul hz.2.2 (show _ ≤ 1000 by omega)) ?_
        rw [sizeLine_eq]; decide
      · cases e
    · cases e
  · split at e
    · cases e
      rename_i hz
      cases r2
      cases r1 with
      | tup t1 s1 => exact ⟨_, op_repT, _, _, _, rfl, rfl, t1.sq, fun z => hz.1 (s1.nil_iff.mp z), hz.2.1, hz.2.2.1, by rw [← s1.length]; exact hz.2.2.2, k.newT R (s1.rep _)⟩
    · cases e
  · cases e
theorem mod_ok : OpR X (binaryOp .Mod) (g2 X.K modD) := op_of fun μ h H x y d h' vx vy Q R r1 r2 e k => by
  unfold modD at e
  split at e
  · split at e
    · cases e; cases r1; cases r2
      rename_i hz
      exact ⟨_, op_mod, _, _, rfl, rfl, hz, k.val R (.int _)⟩
    · cases e
  · cases e
theorem fdiv_ok : OpR X (binaryOp .FloorDiv) (g2 X.K fdivD) := op_of fun μ h H x y d h' vx vy Q R r1 r2 e k => by
  unfold fdivD at e
  split at e
  · split at e
    · cases e; cases r1; cases r2
      rename_i hz
      exact ⟨_, op_fdiv, _, _, rfl, rfl, hz, k.val R (.int _)⟩
    · cases e
  · cases e
theorem pow_ok : OpR X (binaryOp .Pow) (g2 X.K powD) := op_of fun μ h H x y d h' vx vy Q R r1 r2 e k => by
  unfold powD at e
  split at e
  · split at e
    · cases e; cases r1; cases r2
      rename_i hz
      exact ⟨_, op_pow, _, _, rfl, rfl, hz, k.val R (.int _)⟩
    · cases e
  · cases e
end
end MP

/-! text Mini3 -/
set_option Elab.async false
set_option linter.all false
set_option maxRecDepth 100000
set_option maxHeartbeats 4000000
namespace MP
open PySem PySem.Spec PyProof.Rows L2

/-! ### == -/
mutual
/-- a thing as data, n deep at most -/
def pyD (h : Hs) : Nat → D → Option PyData
  | _, .non => some .none
  | _, .bl b => some (.bool b)
  | _, .int i => some (.int i)
  | _, .str x => some (.str x)
  | n + 1, .tup xs => (pyDs h n xs).map PyData.tuple
  | n + 1, .loc l => match itemsAt h l with
    | some xs => (pyDs h n xs).map PyData.list
    | none => none
  | _, _ => none
  termination_by n d => (n, 0, 0)
def pyDs (h : Hs) : Nat → List D → Option (List PyData)
  | _, [] => some []
  | n, x :: xs => match pyD h n x, pyDs h n xs with
    | some d, some ds => some (d :: ds)
    | _, _ => none
  termination_by n xs => (n, 1, xs.length)
end
mutual
theorem Dp_of {K : PySem.W.Frag} {μ : List Addr} {h : Hs} {H : Hp} (R : Rel K μ h H) : ∀ (n : Nat) (d : D) (v : V) (p : PyData), RV K H μ d v → pyD h n d = some p → Dp K H v p := by
  intro n d v p r e
  unfold pyD at e
  split at e
  · cases e; cases r; exact .non
  · cases e; cases r; exact .bl _
  · cases e; cases r; exact .int _
  · cases e; cases r; exact .str _
  · rename_i n xs
    cases q : pyDs h n xs with
    | none => rw [q] at e; cases e
    | some ps =>
      rw [q] at e; cases e
      cases r with
      | tup t s => exact .tup t.sq (DpAll_of R n _ _ _ s q)
  · rename_i n l
    split at e
    · rename_i xs e1
      cases q : pyDs h n xs with
      | none => rw [q] at e; cases e
      | some ps =>
        rw [q] at e; cases e
        obtain ⟨a, rfl, ha⟩ := r.loc_at
        obtain ⟨vs, t, s⟩ := itemsAt_ok R e1 ha
        exact .lst t (DpAll_of R n _ _ _ s q)
    · cases e
  · cases e
  termination_by n d => (n, 0, 0)
theorem DpAll_of {K : PySem.W.Frag} {μ : List Addr} {h : Hs} {H : Hp} (R : Rel K μ h H) : ∀ (n : Nat) (ds : List D) (vs : List V) (ps : List PyData), RVs K H μ ds vs → pyDs h n ds = some ps → DpAll K H vs ps := by
  intro n ds vs ps r e
  cases ds with
  | nil =>
    cases r
    unfold pyDs at e
    cases e
    exact .nil
  | cons x xs =>
    cases r with
    | cons r1 r2 =>
      unfold pyDs at e
      split at e
      · rename_i p ps e1 e2
        cases e
        exact .cons (Dp_of R n x _ _ r1 e1) (DpAll_of R n xs _ _ r2 e2)
      · cases e
  termination_by n ds => (n, 1, ds.length)
end
/-- scalars -/
def eqS : D → D → Option Bool
  | .non, .non => some true
  | .bl a, .bl b => some (decide (a = b))
  | .int i, .int j => some (decide (i = j))
  | .str a, .str b => some (decide (a = b))
  | .non, .int _ => some false
  | .int _, .non => some false
  | .non, .bl _ => some false
  | .bl _, .non => some false
  | .non, .str _ => some false
  | .str _, .non => some false
  | .int _, .str _ => some false
  | .str _, .int _ => some false
  | .bl _, .str _ => some false
  | .str _, .bl _ => some false
  | _, _ => none
def eqD (h : Hs) (x y : D) : Option Bool := match eqS x y with
  | some b => some b
  | none => match pyD h 20 x, pyD h 20 y with
    | some p, some q => if SeqAt.shaped p = true ∧ SeqAt.shaped q = true then some (PyData.eqv p q) else none
    | _, _ => none
def eqO : O2 := fun x y h => (eqD h x y).map fun b => (.bl b, h)
def neO : O2 := fun x y h => (eqD h x y).map fun b => (.bl (!b), h)
theorem eqS_ok {K : PySem.W.Frag} {H : Hp} {μ : List Addr} {x y : D} {vx vy : V} {b : Bool} (r1 : RV K H μ x vx) (r2 : RV K H μ y vy) (e : eqS x y = some b) : scal vx vy = true ∧ decide (vx = vy) = b := by
  unfold eqS at e
  split at e <;> (first | (cases e; done) | (cases r1; cases r2; cases e; refine ⟨rfl, ?_⟩; simp))
section
variable {X : Cx}
theorem eq_ok (hu : X.A.units + 64 < cLine) : OpR X (compareOp .Eq) (g2 X.K eqO) := op_of fun μ h H x y d h' vx vy Q R r1 r2 e k => by
  unfold eqO eqD at e
  split at e
  · rename_i b eb
    cases e
    obtain ⟨s1, s2⟩ := eqS_ok r1 r2 eb
    refine ⟨_, op_eq, s1, ?_⟩
    rw [s2]
    exact k.val R (.bl _)
  · split at e
    · split at e
      · rename_i p q e1 e2 hs
        cases e
        exact ⟨_, op_eqD hu, p, q, Dp_of R _ _ _ _ r1 e1, Dp_of R _ _ _ _ r2 e2, hs.1, hs.2, k.val R (.bl _)⟩
      · cases e
    · cases e
theorem ne_ok (hu : X.A.units + 64 < cLine) : OpR X (compareOp .NotEq) (g2 X.K neO) := op_of fun μ h H x y d h' vx vy Q R r1 r2 e k => by
  unfold neO eqD at e
  split at e
  · rename_i b eb
    cases e
    obtain ⟨s1, s2⟩ := eqS_ok r1 r2 eb
    refine ⟨_, op_ne, s1, ?_⟩
    rw [s2]
    exact k.val R (.bl _)
  · split at e
    · split at e
      · rename_i p q e1 e2 hs
        cases e
        exact ⟨_, op_neD hu, p, q, Dp_of R _ _ _ _ r1 e1, Dp_of R _ _ _ _ r2 e2, hs.1, hs.2, k.val R (.bl _)⟩
      · cases e
    · cases e
end

/-! ### order, is, in -/
def ltO : O2 := fun x y h => match x, y with
  | .int i, .int j => some (.bl (decide (i < j)), h)
  | .str i, .str j => some (.bl (decide (i.cps.toList < j.cps.toList)), h)
  | _, _ => none
def leO : O2 := fun x y h => match x, y with
  | .int i, .int j => some (.bl (decide (i ≤ j)), h)
  | .str i, .str j => some (.bl (!decide (j.cps.toList < i.cps.toList)), h)
  | _, _ => none
def gtO : O2 := fun x y h => match x, y with
  | .int i, .int j => some (.bl (decide (j < i)), h)
  | .str i, .str j => some (.bl (decide (j.cps.toList < i.cps.toList)), h)
  | _, _ => none
def geO : O2 := fun x y h => match x, y with
  | .int i, .int j => some (.bl (decide (j ≤ i)), h)
  | .str i, .str j => some (.bl (!decide (i.cps.toList < j.cps.toList)), h)
  | _, _ => none
def D.isNon : D → Bool
  | .non => true
  | _ => false
def isO : O2 := fun x y h => match y with
  | .non => some (.bl x.isNon, h)
  | .bl b => match x with
    | .bl a => some (.bl (decide (a = b)), h)
    | _ => none
  | _ => none
def isNotO : O2 := fun x y h => match y with
  | .non => some (.bl (!x.isNon), h)
  | .bl b => match x with
    | .bl a => some (.bl (!decide (a = b)), h)
    | _ => none
  | _ => none
def flatD : D → Bool
  | .non => true
  | .bl _ => true
  | .int _ => true
  | .str _ => true
  | _ => false
def eqF : D → D → Bool
  | .non, .non => true
  | .bl a, .bl b => a == b
  | .bl a, .int b => (if a then 1 else 0) == b
  | .int a, .bl b => a == (if b then 1 else 0)
  | .int a, .int b => a == b
  | .str a, .str b => a == b
  | _, _ => false
def seqAt (h : Hs) : D → Option (List D)
  | .tup xs => some xs
  | .loc n => itemsAt h n
  | _ => none
def inD (h : Hs) (x y : D) : Option Bool := match x, y with
  | .str a, .str b => match a.cps.toList with
    | [c] => some (decide (c ∈ b.cps.toList))
    | _ => none
  | x, y => match seqAt h y with
    | some xs => if flatD x = true ∧ xs.all flatD = true then some (xs.any fun z => eqF z x) else
      match y with
      | .loc _ => match pyD h 20 x, pyDs h 20 xs with
        | some p, some ps => if SeqAt.shaped p = true ∧ SeqAt.shaped (.list ps) = true then some (ps.any fun z => PyData.eqv z p) else none
        | _, _ => none
      | _ => none
    | none => none
def inO : O2 := fun x y h => (inD h x y).map fun b => (.bl b, h)
def notInO : O2 := fun x y h => (inD h x y).map fun b => (.bl (!b), h)
theorem RV.isNon {K : PySem.W.Frag} {H : Hp} {μ : List Addr} {x : D} {v : V} (r : RV K H μ x v) : decide (v = .non) = x.isNon := by
  cases r <;> simp [D.isNon]
theorem RV.flat {K : PySem.W.Frag} {H : Hp} {μ : List Addr} {x : D} {v : V} (r : RV K H μ x v) (f : flatD x = true) : flatV v = true ∧ ∀ (y : D) (u : V), RV K H μ y u → flatD y = true → eqV u v = eqF y x := by
  cases r <;> (first | (cases f; done) | (refine ⟨rfl, fun y u ry fy => ?_⟩; cases ry <;> (first | (cases fy; done) | rfl)))
theorem RVs.flat {K : PySem.W.Frag} {H : Hp} {μ : List Addr} {x : D} {v : V} (r : RV K H μ x v) (f : flatD x = true) : ∀ {xs : List D} {vs : List V}, RVs K H μ xs vs → xs.all flatD = true → vs.all flatV = true ∧ inV v vs = xs.any fun z => eqF z x
  | _, _, .nil, _ => ⟨rfl, rfl⟩
  | _, _, .cons q t, fs => by
    rw [List.all_cons, Bool.and_eq_true] at fs
    obtain ⟨a, b⟩ := RVs.flat r f t fs.2
    refine ⟨by rw [List.all_cons, (q.flat fs.1).1, a]; rfl, ?_⟩
    show (eqV _ v || inV v _) = _
    rw [b, (r.flat f).2 _ _ q fs.1]
    rfl
section
variable {X : Cx}
theorem lt_ok : OpR X (compareOp .Lt) (g2 X.K ltO) := op_of fun μ h H x y d h' vx vy Q R r1 r2 e k => by
  unfold ltO at e
  split at e
  · cases e; cases r1; cases r2
    exact ⟨_, op_lt, _, _, rfl, rfl, k.val R (.bl _)⟩
  · cases e; cases r1; cases r2
    exact ⟨_, op_lt_str, _, _, rfl, rfl, k.val R (.bl _)⟩
  · cases e
theorem le_ok : OpR X (compareOp .LtE) (g2 X.K leO) := op_of fun μ h H x y d h' vx vy Q R r1 r2 e k => by
  unfold leO at e
  split at e
  · cases e; cases r1; cases r2
    exact ⟨_, op_le, _, _, rfl, rfl, k.val R (.bl _)⟩
  · cases e; cases r1; cases r2
    exact ⟨_, op_le_str, _, _, rfl, rfl, k.val R (.bl _)⟩
  · cases e
theorem gt_ok : OpR X (compareOp .Gt) (g2 X.K gtO) := op_of fun μ h H x y d h' vx vy Q R r1 r2 e k => by
  unfold gtO at e
  split at e
  · cases e; cases r1; cases r2
    exact ⟨_, op_gt, _, _, rfl, rfl, k.val R (.bl _)⟩
  · cases e; cases r1; cases r2
    exact ⟨_, op_gt_str, _, _, rfl, rfl, k.val R (.bl _)⟩
  · cases e
theorem ge_ok : OpR X (compareOp .GtE) (g2 X.K geO) := op_of fun μ h H x y d h' vx vy Q R r1 r2 e k => by
  unfold geO at e
  split at e
  · cases e; cases r1; cases r2
    exact ⟨_, op_ge, _, _, rfl, rfl, k.val R (.bl _)⟩
  · cases e; cases r1; cases r2
    exact ⟨_, op_ge_str, _, _, rfl, rfl, k.val R (.bl _)⟩
  · cases e
theorem is_ok : OpR X (compareOp .Is) (g2 X.K isO) := op_of fun μ h H x y d h' vx vy Q R r1 r2 e k => by
  unfold isO at e
  split at e
  · cases e; cases r2
    refine ⟨_, op_isN, rfl, ?_⟩
    rw [r1.isNon]
    exact k.val R (.bl _)
  · split at e
    · cases e; cases r1; cases r2
      exact ⟨_, op_is_bl, _, _, rfl, rfl, k.val R (.bl _)⟩
    · cases e
  · cases e
theorem isNot_ok : OpR X (compareOp .IsNot) (g2 X.K isNotO) := op_of fun μ h H x y d h' vx vy Q R r1 r2 e k => by
  unfold isNotO at e
  split at e
  · cases e; cases r2
    refine ⟨_, op_notN, rfl, ?_⟩
    rw [r1.isNon]
    exact k.val R (.bl _)
  · split at e
    · cases e; cases r1; cases r2
      exact ⟨_, op_isnot_bl, _, _, rfl, rfl, k.val R (.bl _)⟩
    · cases e
  · cases e
theorem seqAt_ok {K : PySem.W.Frag} {μ : List Addr} {h : Hs} {H : Hp} {y : D} {v : V} {xs : List D} (R : Rel K μ h H) (r : RV K H μ y v) (e : seqAt h y = some xs) : ∃ a vs, v = .ref a ∧ (SqL K H a vs ∨ SqT K H a vs) ∧ RVs K H μ xs vs := by
  unfold seqAt at e
  split at e
  · cases e
    cases r with
    | tup t s => exact ⟨_, _, rfl, .inr t.sq, s⟩
  · obtain ⟨a, rfl, ha⟩ := r.loc_at
    obtain ⟨vs, t, s⟩ := itemsAt_ok R e ha
    exact ⟨_, _, rfl, .inl t, s⟩
  · cases e
theorem sign_one {a : Str} {c : Nat} (e : a.cps.toList = [c]) : a = ⟨#[c]⟩ := by
  obtain ⟨x⟩ := a
  have : x = #[c] := by
    apply Array.toList_inj.mp
    exact e
  rw [this]
theorem in_of (neg : Bool) (hu : X.A.units + 65 < cLine) {μ : List Addr} {h : Hs} {H : Hp} {x y : D} {vx vy : V} {b : Bool} {Q : VK} (R : Rel X.K μ h H) (r1 : RV X.K H μ x vx) (r2 : RV X.K H μ y vy) (e : inD h x y = some b)
    (k : Q (.bl (if neg then !b else b)) H) : ∃ r, OpR X (compareOp (if neg then .NotIn else .In)) r ∧ r vx vy H Q := by
  unfold inD at e
  split at e
  · split at e
    · rename_i c ec
      cases e; cases r1; cases r2
      have es := sign_one ec
      cases neg with
      | false => exact ⟨_, op_in_sign, c, _, by rw [es], rfl, k⟩
      | true => exact ⟨_, op_notIn_sign, c, _, by rw [es], rfl, k⟩
    · cases e
  · split at e
    · rename_i xs ex
      obtain ⟨a, vs, rfl, t, s⟩ := seqAt_ok R r2 ex
      split at e
      · rename_i hf
        cases e
        obtain ⟨f1, f2⟩ := RVs.flat r1 hf.1 s hf.2
        cases neg with
        | false => exact ⟨_, op_in_seq, a, vs, rfl, t, (r1.flat hf.1).1, f1, by rw [f2]; exact k⟩
        | true => exact ⟨_, op_notIn_seq, a, vs, rfl, t, (r1.flat hf.1).1, f1, by rw [f2]; exact k⟩
      · split at e
        · split at e
          · split at e
            · rename_i p ps e1 e2 hs
              cases e
              have ex' : itemsAt h _ = some xs := ex
              obtain ⟨a', ea, ha⟩ := r2.loc_at
              cases ea
              obtain ⟨vs', t', s'⟩ := itemsAt_ok R ex' ha
              have dl : Dp X.K H (.ref a) (.list ps) := .lst t' (DpAll_of R _ _ _ _ s' e2)
              cases neg with
              | false => exact ⟨_, op_inD hu, p, ps, Dp_of R _ _ _ _ r1 e1, dl, hs.1, hs.2, k⟩
              | true => exact ⟨_, op_notInD hu, p, ps, Dp_of R _ _ _ _ r1 e1, dl, hs.1, hs.2, k⟩
            · cases e
          · cases e
        · cases e
    · cases e
theorem in_ok (hu : X.A.units + 65 < cLine) : OpR X (compareOp .In) (g2 X.K inO) := op_of fun μ h H x y d h' vx vy Q R r1 r2 e k => by
  unfold inO at e
  cases eb : inD h x y with
  | none => rw [eb] at e; cases e
  | some b =>
    rw [eb] at e; cases e
    exact in_of false hu R r1 r2 eb (k.val R (.bl _))
theorem notIn_ok (hu : X.A.units + 65 < cLine) : OpR X (compareOp .NotIn) (g2 X.K notInO) := op_of fun μ h H x y d h' vx vy Q R r1 r2 e k => by
  unfold notInO at e
  cases eb : inD h x y with
  | none => rw [eb] at e; cases e
  | some b =>
    rw [eb] at e; cases e
    exact in_of true hu R r1 r2 eb (k.val R (.bl _))
end

/-! ### truth, len, places, slices -/
def truD (h : Hs) : D → Option Bool
  | .non => some false
  | .bl b => some b
  | .int i => some (i != 0)
  | .str y => if y.length ≤ sizeLine then some ((y.length : Int) != 0) else none
  | .tup xs => some (!xs.isEmpty)
  | .loc n => (itemsAt h n).map fun xs => !xs.isEmpty
  | _ => none
theorem RVs.isEmpty {K : PySem.W.Frag} {H : Hp} {μ : List Addr} {ds : List D} {vs : List V} (r : RVs K H μ ds vs) : vs.isEmpty = ds.isEmpty := by
  cases r <;> rfl
theorem truD_ok {K : PySem.W.Frag} {μ : List Addr} {h : Hs} {H : Hp} {x : D} {v : V} {b : Bool} (R : Rel K μ h H) (r : RV K H μ x v) (e : truD h x = some b) : TruV K v H b := by
  unfold truD at e
  split at e
  · cases e; cases r; rfl
  · cases e; cases r; rfl
  · cases e; cases r; rfl
  · split at e
    · cases e; cases r
      rename_i hz
      exact ⟨hz, rfl⟩
    · cases e
  · cases e
    cases r with
    | tup t s => exact .inr (.inl ⟨_, t.sq, by rw [s.isEmpty]⟩)
  · rename_i n
    cases q : itemsAt h n with
    | none => rw [q] at e; cases e
    | some xs =>
      rw [q] at e; cases e
      obtain ⟨a, rfl, ha⟩ := r.loc_at
      obtain ⟨vs, t, s⟩ := itemsAt_ok R q ha
      exact .inl ⟨_, t, by rw [s.isEmpty]⟩
  · cases e
def lenD (h : Hs) : D → Option Nat
  | .str y => if y.length ≤ sizeLine then some y.length else none
  | .tup xs => some xs.length
  | .loc n => (itemsAt h n).map List.length
  | _ => none
theorem lenD_ok {K : PySem.W.Frag} {μ : List Addr} {h : Hs} {H : Hp} {x : D} {v : V} {n : Nat} (R : Rel K μ h H) (r : RV K H μ x v) (e : lenD h x = some n) : LenV K v H n := by
  unfold lenD at e
  split at e
  · split at e
    · cases e; cases r
      rename_i hz
      exact ⟨hz, rfl⟩
    · cases e
  · cases e
    cases r with
    | tup t s => exact .inr ⟨_, t.sq, s.length⟩
  · rename_i l
    cases q : itemsAt h l with
    | none => rw [q] at e; cases e
    | some xs =>
      rw [q] at e; cases e
      obtain ⟨a, rfl, ha⟩ := r.loc_at
      obtain ⟨vs, t, s⟩ := itemsAt_ok R q ha
      exact .inl ⟨_, t, s.length⟩
  · cases e
def lenN : ON := fun ds h => match ds with
  | [x] => (lenD h x).map fun (n : Nat) => (.int n, h)
  | _ => none
/-- x[i] -/
def ixO : O2 := fun x y h => match y with
  | .int i => match x with
    | .str z => if z.length ≤ sizeLine then (atI z.cps.toList i).map fun c => (.str ⟨#[c]⟩, h) else none
    | x => match seqAt h x with
      | some xs => (atI xs i).map fun d => (d, h)
      | none => none
  | _ => none
theorem RVs.atI {K : PySem.W.Frag} {H : Hp} {μ : List Addr} {ds : List D} {vs : List V} {i : Int} {d : D} (r : RVs K H μ ds vs) (e : atI ds i = some d) : ∃ v, atI vs i = some v ∧ RV K H μ d v := by
  unfold L2.atI at e ⊢
  rw [← r.length]
  cases q : ixN ds.length i with
  | none => rw [q] at e; cases e
  | some j =>
    rw [q] at e
    exact r.get e
/-- x[lo:hi] -/
def slO (x : D) (lo hi : Option Int) (h : Hs) : Option (D × Hs) := match x with
  | .tup xs => some (.tup ((xs.drop (HT.sIx xs.length 0 lo)).take (HT.sIx xs.length xs.length hi - HT.sIx xs.length 0 lo)), h)
  | .loc n => match itemsAt h n with
    | some xs => some (.loc h.length, h ++ [.lst ((xs.drop (HT.sIx xs.length 0 lo)).take (HT.sIx xs.length xs.length hi - HT.sIx xs.length 0 lo))])
    | none => none
  | _ => none
def gSl (K : PySem.W.Frag) (g : D → Option Int → Option Int → Hs → Option (D × Hs)) : V → Option Int → Option Int → Hp → VK → Prop := fun vx lo hi H Q => ∃ μ h x d h', Rel K μ h H ∧ RV K H μ x vx ∧ g x lo hi h = some (d, h') ∧ After K μ H d h' Q
theorem RVs.cut {K : PySem.W.Frag} {H : Hp} {μ : List Addr} {ds : List D} {vs : List V} (r : RVs K H μ ds vs) (lo hi : Option Int) :
    RVs K H μ ((ds.drop (HT.sIx ds.length 0 lo)).take (HT.sIx ds.length ds.length hi - HT.sIx ds.length 0 lo)) (cutV vs lo hi) := by
  unfold cutV
  rw [← r.length]
  exact (r.drop _).take _
section
variable {X : Cx}
theorem tru_any : TruR X (fun x H Q => ∃ k, TruV X.K x H k ∧ Q k H) := tru_ok
theorem len_ok : CallR X (.builtin "len") (gN X.K lenN) := fun pins s σ H xs us Q I rx ⟨μ, h, ds, d, h', R, r, e, k⟩ => by
  unfold lenN at e
  split at e
  · rename_i x
    cases q : lenD h x with
    | none => rw [q] at e; cases e
    | some n =>
      rw [q] at e; cases e
      cases r with
      | cons r1 r2 =>
        cases r2
        exact call_len pins s σ H _ us Q I rx ⟨_, n, rfl, lenD_ok R r1 q, k.val R (.int _)⟩
  · cases e
theorem ix_of {g : O2} (c : ∀ μ h H x y d h' vx vy Q, Rel X.K μ h H → RV X.K H μ x vx → RV X.K H μ y vy → g x y h = some (d, h') → After X.K μ H d h' Q → ∃ r, IxR X r ∧ r vx vy H Q) : IxR X (g2 X.K g) :=
  fun a b pins s σ H x y v u Q I rx ry ⟨μ, h, dx, dy, d, h', R, r1, r2, e, k⟩ hs => by
    obtain ⟨r, o, q⟩ := c μ h H dx dy d h' x y Q R r1 r2 e k
    exact o a b pins s σ H x y v u Q I rx ry q hs
theorem ix_ok : IxR X (g2 X.K ixO) := ix_of fun μ h H x y d h' vx vy Q R r1 r2 e k => by
  unfold ixO at e
  split at e
  · rename_i i
    cases r2
    split at e
    · split at e
      · rename_i z hz
        cases q : L2.atI z.cps.toList i with
        | none => rw [q] at e; cases e
        | some c =>
          rw [q] at e; cases e
          cases r1
          exact ⟨_, ix_str, z, i, c, rfl, rfl, hz, q, k.val R (.str _)⟩
      · cases e
    · split at e
      · rename_i xs ex
        cases q : L2.atI xs i with
        | none => rw [q] at e; cases e
        | some c =>
          rw [q] at e; cases e
          obtain ⟨a, vs, rfl, t, s⟩ := seqAt_ok R r1 ex
          obtain ⟨w, e1, rw1⟩ := s.atI q
          rcases t with t | t
          · exact ⟨_, ix_list, a, vs, i, w, rfl, rfl, t, e1, k.val R rw1⟩
          · exact ⟨_, ix_tup, a, vs, i, w, rfl, rfl, t, e1, k.val R rw1⟩
      · cases e
  · cases e
theorem sl_ok : SlR X (gSl X.K slO) := fun pins s σ H x v vl vu lo hi sl Q I rx hsl p1 p2 ⟨μ, h, dx, d, h', R, r, e, k⟩ => by
  unfold slO at e
  split at e
  · cases e
    cases r with
    | tup t s1 =>
      refine sl_tupA pins s σ H _ v vl vu lo hi sl Q I rx hsl p1 p2 ⟨_, _, rfl, t.sq, fun hw => ?_, fun _ => k.newT R (s1.cut lo hi)⟩
      have e0 : cutV _ lo hi = _ := (show cutV _ lo hi = _ from by unfold cutV; rw [hw.1, hw.2, List.drop_zero, Nat.sub_zero, List.take_length])
      have s2 := s1.cut lo hi
      rw [e0] at s2
      exact k.val R (.tup t s2)
  · split at e
    · rename_i xs ex
      cases e
      obtain ⟨a, rfl, ha⟩ := r.loc_at
      obtain ⟨vs, t, s1⟩ := itemsAt_ok R ex ha
      exact sl_list pins s σ H _ v vl vu lo hi sl Q I rx hsl p1 p2 ⟨a, vs, rfl, t, k.newL R (s1.cut lo hi)⟩
    · cases e
  · cases e
end
end MP

/-! text Mini4 -/
set_option Elab.async false
set_option linter.all false
set_option maxRecDepth 100000
set_option maxHeartbeats 4000000
namespace PySem.AutoSeq1
open Builtin
theorem list_extend_list_tupleX (l : Addr) (items : Array Value) (n : Nat) (b : Addr) (items2 : Array Value) (n2 : Nat) (dd : Option Addr) (sl : Array (Option Value)) (hs0 : ¬(!items.isEmpty && Builtin.List.listTooLong (items.size + items2.size)) = true) (hs1 : items.size ≤ sizeLine) (hs2 : items.size + items2.size ≤ sizeLine + 1) :
    Meets (Builtin.«list.extend» ⟨[.ref l, .ref b], []⟩) (fun _ R s => s.heap.get? l = some { cls := .type "list", dict := none, data := .seq items n, slots := #[] } ∧ s.heap.get? b = some { cls := .type "tuple", dict := dd, data := .seq items2 n2, slots := sl } ∧ R (.ok (.ret Value.none)) { s with heap := s.heap.update l (Obj.mapSeq fun x => x ++ items2), toks := s.toks }) :=
  .of_wp fun prog w A R s h => by
    obtain ⟨hp, g, d, tk, os⟩ := s; obtain ⟨hl, hb, h⟩ := h; have f1 := idx_int; have f2 := sub_tuple_tuple; have f3 := sub_list_list; have f4 := sub_tuple_list; have f5 := sub_list_tuple;
    have hz' : (items ++ items2).size ≤ sizeLine + 1 := by rw [Array.size_append]; exact hs2
    wp_walk using (wpAny_updateSeq hl rfl (hz := hs1) (_hz' := hz')), wpAny_loadPart' hl, wpAny_loadPart' hb; exact ⟨_, rfl, h⟩
end PySem.AutoSeq1
namespace MP
open PySem PySem.Spec PyProof.Rows L2

/-! ### isinstance -/
def tyD (h : Hs) : D → Option String
  | .non => some "NoneType"
  | .bl _ => some "bool"
  | .int _ => some "int"
  | .str _ => some "str"
  | .tup _ => some "tuple"
  | .loc n => match h[n]? with
    | some (.lst _) => some "list"
    | some (.frz _) => some "list"
    | some (.dK _) => some "dict"
    | some (.dT _) => some "dict"
    | _ => none
  | _ => none
def isT (a b : String) : Bool := a == b || (a == "bool" && b == "int")
def tysA : List String := ["NoneType", "bool", "int", "str", "tuple", "list", "dict"]
def tysB : List String := ["bool", "int", "str", "tuple", "list", "dict"]
theorem isT_all : tysA.all (fun a => tysB.all fun b => kitB a b == some (isT a b)) = true := by decide +kernel
theorem isT_ok {a b : String} (ha : a ∈ tysA) (hb : b ∈ tysB) : kitB a b = some (isT a b) := by
  have h := List.all_eq_true.mp (List.all_eq_true.mp isT_all a ha) b hb
  exact eq_of_beq h
theorem tyD_ok {K : PySem.W.Frag} {μ : List Addr} {h : Hs} {H : Hp} {x : D} {v : V} {t : String} (R : Rel K μ h H) (r : RV K H μ x v) (e : tyD h x = some t) : TyX K H v (.type t) ∧ t ∈ tysA := by
  unfold tyD at e
  split at e
  · cases e; cases r; exact ⟨.base .non, by decide⟩
  · cases e; cases r; exact ⟨.base (.bl _), by decide⟩
  · cases e; cases r; exact ⟨.base (.int _), by decide⟩
  · cases e; cases r; exact ⟨.base (.str _), by decide⟩
  · cases e
    cases r with
    | tup t s =>
      rcases t with t | ⟨o, its, n, e1, e2, _⟩
      · exact ⟨.base (.tup t), by decide⟩
      · exact ⟨.kTuple e1 e2, by decide⟩
  · obtain ⟨a, rfl, ha⟩ := r.loc_at
    split at e
    · rename_i xs e1
      cases e
      obtain ⟨vs, h1, _⟩ := R.lst e1 ha
      exact ⟨.base (.lst h1), by decide⟩
    · rename_i ns e1
      cases e
      rcases R.obj _ _ _ ha e1 with ⟨o, e2⟩ | ⟨o, its, n, e2, e3, _⟩
      · exact ⟨.base (.frz e2), by decide⟩
      · exact ⟨.kList e2 e3, by decide⟩
    · rename_i kvs e1
      cases e
      obtain ⟨vs, h1, _⟩ := R.obj _ _ _ ha e1
      exact ⟨.base (.dK h1), by decide⟩
    · rename_i kvs e1
      cases e
      obtain ⟨vs, h1, _⟩ := R.obj _ _ _ ha e1
      exact ⟨.base (.dT h1), by decide⟩
    · cases e
  · cases e
def tyNames : List D → Option (List String)
  | [] => some []
  | .ty n :: r => match tyNames r with
    | some ns => if tysB.contains n = true then some (n :: ns) else none
    | none => none
  | _ => none
def isinstN : ON := fun ds h => match ds with
  | [x, .ty n] => match tyD h x with
    | some t => if tysB.contains n = true then some (.bl (isT t n), h) else none
    | none => none
  | [x, .tup cs] => match tyD h x, tyNames cs with
    | some t, some ns => some (.bl (ns.any (isT t)), h)
    | _, _ => none
  | _ => none
theorem RVs.tyNames {K : PySem.W.Frag} {H : Hp} {μ : List Addr} : ∀ {cs : List D} {vs : List V} {ns : List String}, RVs K H μ cs vs → MP.tyNames cs = some ns → Paired ClsV vs (ns.map Value.type) ∧ ∀ n ∈ ns, n ∈ tysB := by
  intro cs
  induction cs with
  | nil =>
    intro vs ns r e
    cases r; cases e
    exact ⟨.nil, fun _ z => nomatch z⟩
  | cons c cs ih =>
    intro vs ns r e
    cases r with
    | cons r1 r2 =>
      cases r1 with
      | ty n =>
        unfold MP.tyNames at e
        split at e
        · rename_i ns' e'
          split at e
          · rename_i hc
            cases e
            obtain ⟨i1, i2⟩ := ih r2 e'
            refine ⟨.cons (.ty n) i1, fun m hm => ?_⟩
            rcases List.mem_cons.mp hm with rfl | hm
            · simpa using hc
            · exact i2 m hm
          · cases e
        · cases e
      | _ => cases e
theorem kitAny_of {K : PySem.W.Frag} {t : String} (ht : t ∈ tysA) : ∀ {ns : List String}, (∀ n ∈ ns, n ∈ tysB) → PySem.W.kitAny K (.type t) (ns.map Value.type) = some (ns.any (isT t))
  | [], _ => kitAny_nil
  | n :: r, h => by
    have h1 : PySem.W.kitOne K (.type t) (.type n) = some (isT t n) := kit_ty (isT_ok ht (h n List.mem_cons_self))
    have h2 := kitAny_of (K := K) ht (ns := r) fun m hm => h m (List.mem_cons_of_mem _ hm)
    rw [List.any_cons]
    refine kitAny_cons h1 (fun e => ?_) fun e => by rw [e]; rfl
    rw [e, Bool.false_or]
    exact h2

/-! ### list, tuple, int, min, max, sum, all, any, sorted -/
def listN : ON := fun ds h => match ds with
  | [x] => match seqAt h x with
    | some xs => some (.loc h.length, h ++ [.lst xs])
    | none => none
  | _ => none
def tupleN : ON := fun ds h => match ds with
  | [.tup xs] => some (.tup xs, h)
  | [.loc n] => match itemsAt h n with
    | some xs => some (.tup xs, h)
    | none => none
  | _ => none
def intN : ON := fun ds h => match ds with
  | [.int i] => some (.int i, h)
  | [.bl k] => some (.int (if k then 1 else 0), h)
  | _ => none
def min2N : ON := fun ds h => match ds with
  | [.int i, .int j] => some (.int (if j < i then j else i), h)
  | _ => none
def max2N : ON := fun ds h => match ds with
  | [.int i, .int j] => some (.int (if j > i then j else i), h)
  | _ => none
def asInts : List D → Option (List Int)
  | [] => some []
  | .int i :: r => (asInts r).map (i :: ·)
  | _ => none
def asStrs : List D → Option (List Str)
  | [] => some []
  | .str i :: r => (asStrs r).map (i :: ·)
  | _ => none
def asBls : List D → Option (List Bool)
  | [] => some []
  | .bl i :: r => (asBls r).map (i :: ·)
  | _ => none
def asPairs : List D → Option (List (Int × Int))
  | [] => some []
  | .tup [.int i, .int j] :: r => (asPairs r).map ((i, j) :: ·)
  | _ => none
def D.atItems (h : Hs) : D → Option (List D)
  | .loc n => itemsAt h n
  | _ => none
def sumN : ON := fun ds h => match ds with
  | [x] => match (x.atItems h).bind asInts with
    | some ns => some (.int ns.sum, h)
    | none => none
  | _ => none
def allN : ON := fun ds h => match ds with
  | [x] => match (x.atItems h).bind asBls with
    | some ns => some (.bl (ns.all id), h)
    | none => none
  | _ => none
def anyN : ON := fun ds h => match ds with
  | [x] => match (x.atItems h).bind asBls with
    | some ns => some (.bl (ns.any id), h)
    | none => none
  | _ => none
theorem asInts_eq : ∀ {ds : List D} {ns : List Int}, asInts ds = some ns → ds = ns.map D.int := by
  intro ds
  induction ds with
  | nil => intro ns e; cases e; rfl
  | cons d r ih =>
    intro ns e
    cases d <;> (first | (cases e; done) | skip)
    rename_i i
    cases q : asInts r with
    | none => unfold asInts at e; rw [q] at e; cases e
    | some ms => unfold asInts at e; rw [q] at e; cases e; rw [ih q]; rfl
theorem asStrs_eq : ∀ {ds : List D} {ns : List Str}, asStrs ds = some ns → ds = ns.map D.str := by
  intro ds
  induction ds with
  | nil => intro ns e; cases e; rfl
  | cons d r ih =>
    intro ns e
    cases d <;> (first | (cases e; done) | skip)
    rename_i i
    cases q : asStrs r with
    | none => unfold asStrs at e; rw [q] at e; cases e
    | some ms => unfold asStrs at e; rw [q] at e; cases e; rw [ih q]; rfl
theorem asBls_eq : ∀ {ds : List D} {ns : List Bool}, asBls ds = some ns → ds = ns.map D.bl := by
  intro ds
  induction ds with
  | nil => intro ns e; cases e; rfl
  | cons d r ih =>
    intro ns e
    cases d <;> (first | (cases e; done) | skip)
    rename_i i
    cases q : asBls r with
    | none => unfold asBls at e; rw [q] at e; cases e
    | some ms => unfold asBls at e; rw [q] at e; cases e; rw [ih q]; rfl
def pairD (p : Int × Int) : D := .tup [.int p.1, .int p.2]
theorem asPairs_eq : ∀ {ds : List D} {ns : List (Int × Int)}, asPairs ds = some ns → ds = ns.map pairD := by
  intro ds
  induction ds with
  | nil => intro ns e; cases e; rfl
  | cons d r ih =>
    intro ns e
    unfold asPairs at e
    split at e
    · rename_i h; cases h
    · rename_i i j r' h
      cases h
      cases q : asPairs r with
      | none => rw [q] at e; cases e
      | some ms => rw [q] at e; cases e; rw [ih q]; rfl
    · cases e
theorem D.atItems_ok {K : PySem.W.Frag} {μ : List Addr} {h : Hs} {H : Hp} {x : D} {v : V} {xs : List D} (R : Rel K μ h H) (r : RV K H μ x v) (e : x.atItems h = some xs) : ∃ a vs, v = .ref a ∧ SqL K H a vs ∧ RVs K H μ xs vs := by
  unfold D.atItems at e
  split at e
  · obtain ⟨a, rfl, ha⟩ := r.loc_at
    obtain ⟨vs, t, s⟩ := itemsAt_ok R e ha
    exact ⟨_, _, rfl, t, s⟩
  · cases e
section
variable {X : Cx}
theorem call_of {f : Value} {g : ON} (c : ∀ μ h H ds d h' vs Q, Rel X.K μ h H → RVs X.K H μ ds vs → g ds h = some (d, h') → After X.K μ H d h' Q → ∃ r, CallR X f r ∧ r vs H Q) : CallR X f (gN X.K g) :=
  fun pins s σ H xs us Q I rx ⟨μ, h, ds, d, h', R, r, e, k⟩ => by
    obtain ⟨r', o, q⟩ := c μ h H ds d h' xs Q R r e k
    exact o pins s σ H xs us Q I rx q
theorem isinst_ok' : CallR X (.builtin "isinstance") (gN X.K isinstN) := call_of fun μ h H ds d h' vs Q R r e k => by
  unfold isinstN at e
  split at e
  · split at e
    · rename_i t et
      split at e
      · rename_i hc
        cases e
        cases r with
        | cons r1 r2 =>
          cases r2 with
          | cons r2 r3 =>
            cases r3; cases r2
            obtain ⟨t1, t2⟩ := tyD_ok R r1 et
            exact ⟨_, call_isi, _, _, _, _, _, rfl, .ty _, t1, kit_ty (isT_ok t2 (by simpa using hc)), k.val R (.bl _)⟩
      · cases e
    · cases e
  · split at e
    · rename_i t ns et en
      cases e
      cases r with
      | cons r1 r2 =>
        cases r2 with
        | cons r2 r3 =>
          cases r3
          obtain ⟨t1, t2⟩ := tyD_ok R r1 et
          cases r2 with
          | tup tt ss =>
            obtain ⟨p1, p2⟩ := RVs.tyNames ss en
            have kk := kitAny_of (K := X.K) t2 p2
            rcases tt with tt | ⟨o, its, n, e1, e2, e3, _, e4⟩
            · exact ⟨_, call_isiT, _, _, _, _, _, _, rfl, tt, p1, t1, kk, k.val R (.bl _)⟩
            · have e5 : its.toList = ns.map Value.type := ClsV.all p1 e4
              obtain ⟨oc, od, odt, osl⟩ := o
              cases e2; cases e3
              refine ⟨_, call_isiK, _, _, od, ns.map Value.type, n, osl, _, _, rfl, ?_, t1, kk, k.val R (.bl _)⟩
              rw [← e5]
              exact e1
    · cases e
  · cases e
theorem list_ok : CallR X (.type "list") (gN X.K listN) := call_of fun μ h H ds d h' vs Q R r e k => by
  unfold listN at e
  split at e
  · split at e
    · rename_i xs ex
      cases e
      cases r with
      | cons r1 r2 =>
        cases r2
        obtain ⟨a, us, rfl, t, s⟩ := seqAt_ok R r1 ex
        exact ⟨_, call_list_of, a, us, rfl, t, k.newL R s⟩
    · cases e
  · cases e
theorem tuple_ok : CallR X (.type "tuple") (gN X.K tupleN) := call_of fun μ h H ds d h' vs Q R r e k => by
  unfold tupleN at e
  split at e
  · cases e
    cases r with
    | cons r1 r2 =>
      cases r2
      cases r1 with
      | tup t s => exact ⟨_, call_tuple_of, _, _, rfl, .inr ⟨t.sq, k.val R (.tup t s)⟩⟩
  · split at e
    · rename_i xs ex
      cases e
      cases r with
      | cons r1 r2 =>
        cases r2
        obtain ⟨a, rfl, ha⟩ := r1.loc_at
        obtain ⟨us, t, s⟩ := itemsAt_ok R ex ha
        exact ⟨_, call_tuple_of, a, us, rfl, .inl ⟨t, k.newT R s⟩⟩
    · cases e
  · cases e
theorem int_ok : CallR X (.type "int") (gN X.K intN) := call_of fun μ h H ds d h' vs Q R r e k => by
  unfold intN at e
  split at e
  · cases e
    cases r with
    | cons r1 r2 =>
      cases r2; cases r1
      exact ⟨_, call_int1, .inl ⟨_, rfl, k.val R (.int _)⟩⟩
  · cases e
    cases r with
    | cons r1 r2 =>
      cases r2; cases r1
      exact ⟨_, call_int1, .inr ⟨_, rfl, k.val R (.int _)⟩⟩
  · cases e
theorem min2_ok (hc : X.calm = true) : CallR X (.builtin "min") (gN X.K min2N) := call_of fun μ h H ds d h' vs Q R r e k => by
  unfold min2N at e
  split at e
  · cases e
    cases r with
    | cons r1 r2 =>
      cases r2 with
      | cons r2 r3 =>
        cases r3; cases r2; cases r1
        exact ⟨_, call_min2 hc, _, _, rfl, k.val R (.int _)⟩
  · cases e
theorem max2_ok (hc : X.calm = true) : CallR X (.builtin "max") (gN X.K max2N) := call_of fun μ h H ds d h' vs Q R r e k => by
  unfold max2N at e
  split at e
  · cases e
    cases r with
    | cons r1 r2 =>
      cases r2 with
      | cons r2 r3 =>
        cases r3; cases r2; cases r1
        exact ⟨_, call_max2 hc, _, _, rfl, k.val R (.int _)⟩
  · cases e
theorem sum_ok (hc : X.calm = true) : CallR X (.builtin "sum") (gN X.K sumN) := call_of fun μ h H ds d h' vs Q R r e k => by
  unfold sumN at e
  split at e
  · split at e
    · rename_i ns en
      cases e
      obtain ⟨xs, e1, e2⟩ := Option.bind_eq_some_iff.mp en
      cases r with
      | cons r1 r2 =>
        cases r2
        obtain ⟨a, us, rfl, t, s⟩ := D.atItems_ok R r1 e1
        rw [asInts_eq e2] at s
        rw [s.of_ints] at t
        exact ⟨_, cr_sum hc, a, ns, rfl, t, k.val R (.int _)⟩
    · cases e
  · cases e
theorem all_ok (hc : X.calm = true) : CallR X (.builtin "all") (gN X.K allN) := call_of fun μ h H ds d h' vs Q R r e k => by
  unfold allN at e
  split at e
  · split at e
    · rename_i ns en
      cases e
      obtain ⟨xs, e1, e2⟩ := Option.bind_eq_some_iff.mp en
      cases r with
      | cons r1 r2 =>
        cases r2
        obtain ⟨a, us, rfl, t, s⟩ := D.atItems_ok R r1 e1
        rw [asBls_eq e2] at s
        rw [s.of_bls] at t
        exact ⟨_, cr_all hc, a, ns, rfl, t, k.val R (.bl _)⟩
    · cases e
  · cases e
theorem any_ok (hc : X.calm = true) : CallR X (.builtin "any") (gN X.K anyN) := call_of fun μ h H ds d h' vs Q R r e k => by
  unfold anyN at e
  split at e
  · split at e
    · rename_i ns en
      cases e
      obtain ⟨xs, e1, e2⟩ := Option.bind_eq_some_iff.mp en
      cases r with
      | cons r1 r2 =>
        cases r2
        obtain ⟨a, us, rfl, t, s⟩ := D.atItems_ok R r1 e1
        rw [asBls_eq e2] at s
        rw [s.of_bls] at t
        exact ⟨_, cr_any hc, a, ns, rfl, t, k.val R (.bl _)⟩
    · cases e
  · cases e
end
end MP

/-! text Mini5 -/
set_option Elab.async false
set_option linter.all false
set_option maxRecDepth 100000
set_option maxHeartbeats 4000000
namespace MP
open PySem PySem.Spec PyProof.Rows L2

/-! ### sorted -/
def sortI (ns : List Int) : List Int := ns.mergeSort fun a b => decide (a ≤ b)
theorem sortI_perm (ns : List Int) : (sortI ns).Perm ns := List.mergeSort_perm _ _
theorem sortI_sorted (ns : List Int) : (sortI ns).Pairwise (· ≤ ·) := by
  have h := List.pairwise_mergeSort (le := fun a b : Int => decide (a ≤ b)) (fun a b c h1 h2 => by simp at *; omega) (fun a b => by simp; omega) ns
  exact h.imp fun h => by simpa using h
theorem sortI_uniq {ns ms : List Int} (h1 : ms.Perm ns) (h2 : ms.Pairwise (· ≤ ·)) : ms = sortI ns :=
  (h1.trans (sortI_perm ns).symm).eq_of_pairwise (fun x y _ _ a b => Int.le_antisymm a b) h2 (sortI_sorted ns)
theorem lt_irr : ∀ l : List Nat, ltCps l l = false
  | [] => rfl
  | a :: r => by
    unfold ltCps
    rw [lt_irr r]
    simp
theorem lt_asy : ∀ {l m : List Nat}, ltCps l m = true → ltCps m l = false
  | [], [], h => by cases h
  | [], _ :: _, _ => rfl
  | _ :: _, [], h => by cases h
  | a :: r, b :: t, h => by
    unfold ltCps at h ⊢
    rw [Bool.or_eq_true, Bool.and_eq_true, decide_eq_true_iff, beq_iff_eq] at h
    rcases h with h | ⟨rfl, h⟩
    · rw [Bool.or_eq_false_iff, Bool.and_eq_false_iff]
      refine ⟨decide_eq_false (by omega), .inl (by rw [beq_eq_false_iff_ne]; omega)⟩
    · rw [lt_asy h]
      simp
/-- not l < m is total, transitive, antisymmetric -/
theorem nlt_tr : ∀ {l m k : List Nat}, ltCps m l = false → ltCps k m = false → ltCps k l = false
  | [], m, k, _, _ => by cases k <;> rfl
  | _ :: _, [], _, h, _ => by cases h
  | _ :: _, _ :: _, [], _, h => by cases h
  | a :: r, b :: t, c :: s, h1, h2 => by
    unfold ltCps at h1 h2 ⊢
    rw [Bool.or_eq_false_iff, Bool.and_eq_false_iff, decide_eq_false_iff_not, beq_eq_false_iff_ne] at h1 h2 ⊢
    refine ⟨by omega, ?_⟩
    by_cases e : c = a
    · have e1 : b = a := by omega
      subst e; subst e1
      right
      rcases h1.2 with z | z
      · exact absurd rfl z
      rcases h2.2 with z' | z'
      · exact absurd rfl z'
      exact nlt_tr z z'
    · exact .inl e
theorem nlt_anti : ∀ {l m : List Nat}, ltCps m l = false → ltCps l m = false → l = m
  | [], [], _, _ => rfl
  | [], _ :: _, _, h => by cases h
  | _ :: _, [], h, _ => by cases h
  | a :: r, b :: t, h1, h2 => by
    unfold ltCps at h1 h2
    rw [Bool.or_eq_false_iff, Bool.and_eq_false_iff, decide_eq_false_iff_not, beq_eq_false_iff_ne] at h1 h2
    have e : a = b := by omega
    subst e
    rcases h1.2 with z | z
    · exact absurd rfl z
    rcases h2.2 with z' | z'
    · exact absurd rfl z'
    rw [nlt_anti z z']
def leS (a b : Str) : Bool := !ltCps b.cps.toList a.cps.toList
def sortS (xs : List Str) : List Str := xs.mergeSort leS
theorem Str_ext {a b : Str} (h : a.cps.toList = b.cps.toList) : a = b := by
  obtain ⟨x⟩ := a
  obtain ⟨y⟩ := b
  exact congrArg Str.mk (Array.toList_inj.mp h)
theorem leS_trans (a b c : Str) (h1 : leS a b = true) (h2 : leS b c = true) : leS a c = true := by
  unfold leS at *
  rw [Bool.not_eq_true'] at *
  exact nlt_tr h1 h2
theorem leS_total (a b : Str) : (leS a b || leS b a) = true := by
  unfold leS
  cases h : ltCps b.cps.toList a.cps.toList with
  | false => rfl
  | true => rw [lt_asy h]; rfl
theorem leS_anti {a b : Str} (h1 : leS a b = true) (h2 : leS b a = true) : a = b := by
  unfold leS at *
  rw [Bool.not_eq_true'] at *
  exact Str_ext (nlt_anti h1 h2)
theorem sortS_perm (xs : List Str) : (sortS xs).Perm xs := List.mergeSort_perm _ _
theorem sortS_sorted (xs : List Str) : (sortS xs).Pairwise fun a b => leS a b = true := List.pairwise_mergeSort leS_trans leS_total xs
theorem rising_pw : ∀ (p : Str) (l : List Str), risingS p l = true → (p :: l).Pairwise fun a b => leS a b = true
  | p, [], _ => List.pairwise_singleton _ _
  | p, x :: r, h => by
    unfold risingS at h
    rw [Bool.and_eq_true] at h
    have ih := rising_pw x r h.2
    refine List.pairwise_cons.mpr ⟨fun y hy => ?_, ih⟩
    rcases List.mem_cons.mp hy with rfl | hy
    · exact h.1
    · exact leS_trans _ _ _ h.1 ((List.pairwise_cons.mp ih).1 y hy)
theorem sortedS_pw {l : List Str} (h : sortedS l = true) : l.Pairwise fun a b => leS a b = true := by
  cases l with
  | nil => exact .nil
  | cons x r => exact rising_pw x r h
theorem sortS_uniq {xs ys : List Str} (h1 : ys.Perm xs) (h2 : ys.Pairwise fun a b => leS a b = true) : ys = sortS xs :=
  (h1.trans (sortS_perm xs).symm).eq_of_pairwise (fun x y _ _ a b => leS_anti a b) h2 (sortS_sorted xs)
def leP (p q : Int × Int) : Bool := !SrtO.lexB q p
def sortP (ps : List (Int × Int)) : List (Int × Int) := ps.mergeSort leP
theorem leP_iff {p q : Int × Int} : leP p q = true ↔ p.1 < q.1 ∨ (p.1 = q.1 ∧ p.2 ≤ q.2) := by
  unfold leP
  rw [Bool.not_eq_true', SrtO.lexB_no]
  omega
theorem sortP_perm (ps : List (Int × Int)) : (sortP ps).Perm ps := List.mergeSort_perm _ _
theorem sortP_sorted (ps : List (Int × Int)) : (sortP ps).Pairwise fun a b => leP a b = true :=
  List.pairwise_mergeSort (fun a b c h1 h2 => by rw [leP_iff] at *; omega) (fun a b => by rw [Bool.or_eq_true, leP_iff, leP_iff]; omega) ps
theorem sortP_uniq {ps qs : List (Int × Int)} (h1 : qs.Perm ps) (h2 : qs.Pairwise fun a b => leP a b = true) : qs = sortP ps :=
  (h1.trans (sortP_perm ps).symm).eq_of_pairwise (fun x y _ _ a b => by rw [leP_iff] at *; exact Prod.ext (by omega) (by omega)) h2 (sortP_sorted ps)
def sortedN : ON := fun ds h => match ds with
  | [x] => match x.atItems h with
    | some xs => match asInts xs with
      | some ns => some (.loc h.length, h ++ [.lst ((sortI ns).map D.int)])
      | none => match asStrs xs with
        | some ss => if ss.length < 64 then some (.loc h.length, h ++ [.lst ((sortS ss).map D.str)]) else none
        | none => match asPairs xs with
          | some ps => some (.loc h.length, h ++ [.lst ((sortP ps).map pairD)])
          | none => none
    | none => none
  | _ => none
section
variable {X : Cx}
/-- sorted of pairs of ints, wherever the pairs stand -/
theorem cr_sortedPT : CallR X (.builtin "sorted") (fun vs H Q => ∃ (a : Addr) (xs : List V) (k : V → Int × Int), vs = [V.ref a] ∧ SqL X.K H a xs ∧ (∀ x ∈ xs, ∃ t, x = V.ref t ∧ SqT X.K H t [.int (k x).1, .int (k x).2]) ∧
    ∀ ys p, SrtO.Srtd (ltP k) ys → SrtO.Stb (ltP k) ys xs → H p = none → Q (.ref p) (upd H p (.lst ys))) := by
  intro pins s σ H vs us Q I r h
  obtain ⟨a, xs, k, rfl, hs, hx, q⟩ := h
  obtain ⟨its, rv, hl, hz⟩ := I.list hs
  obtain ⟨u, rfl, ru⟩ := vals1 r
  obtain rfl : u = Value.ref a := ru
  obtain ⟨e1, e2⟩ := refs_back rv fun x m => by
    obtain ⟨t, e, _⟩ := hx x m
    exact ⟨t, e⟩
  refine SrtO.sorted_pairsO (k := fun u => k (backV u)) hl.isList (by rw [← rv.length]; exact hz) (fun v hv => ?_) fun h' d out h1 h2 kp hd hn => ?_
  · obtain ⟨t, rfl⟩ := e2 v hv
    have hm : V.ref t ∈ xs := by rw [e1]; exact List.mem_map.mpr ⟨_, hv, rfl⟩
    obtain ⟨t', e, ht⟩ := hx _ hm
    cases e
    obtain ⟨its2, r2, ⟨o, ho, hc, n, hd⟩, _⟩ := I.tuple ht
    obtain ⟨u1, u2, rfl, ri, rj⟩ := vals2 r2
    obtain ⟨t1, rfl⟩ := ri
    obtain ⟨t2, rfl⟩ := rj
    exact ⟨t, o, t1, t2, n, rfl, ho, hc, hd⟩
  · have h3 : ∀ u ∈ out, ∃ a, u = Value.ref a := fun u hu => e2 u (h2.perm.mem_iff.mp hu)
    obtain ⟨n, hn⟩ := hn
    have hb : SrtO.Stb (ltP k) (out.map backV) xs := by
      rw [e1]
      exact SrtO.Stb.map (ltP_swo k) backV h2
    refine ⟨.ref d, upd H d (.lst (out.map backV)), I.laid (t' := s.toks) kp hd ⟨?_, out, n, vals_back h3, hn⟩, rfl, q _ d (SrtO.srtd_map h1) hb (I.hok.fresh hd)⟩
    rw [hb.len]
    exact hz
theorem RVs.mem {K : PySem.W.Frag} {H : Hp} {μ : List Addr} {ds : List D} {vs : List V} (r : RVs K H μ ds vs) {v : V} (hv : v ∈ vs) : ∃ d ∈ ds, RV K H μ d v := by
  obtain ⟨i, hi⟩ := List.getElem?_of_mem hv
  obtain ⟨d, e, rr⟩ := r.gets hi
  exact ⟨d, List.mem_of_getElem? e, rr⟩
theorem RVs.of_map {K : PySem.W.Frag} {H : Hp} {μ : List Addr} {α : Type} (f : α → D) (g : V → α) : ∀ vs : List V, (∀ v ∈ vs, RV K H μ (f (g v)) v) → RVs K H μ ((vs.map g).map f) vs
  | [], _ => .nil
  | v :: r, h => .cons (h v List.mem_cons_self) (RVs.of_map f g r fun u hu => h u (List.mem_cons_of_mem _ hu))
open Classical in
/-- which pair stands at a value -/
noncomputable def keyAt (K : PySem.W.Frag) (H : Hp) (μ : List Addr) (v : V) : Int × Int := if c : ∃ p, RV K H μ (pairD p) v then Classical.choose c else (0, 0)
theorem RV.pair_inj {K : PySem.W.Frag} {H : Hp} {μ : List Addr} {v : V} {p q : Int × Int} {pins : List (Addr × Obj)} {σ : L2.St} {s : Shared} (I : Inv X pins σ H s) (hK : K = X.K) (a : RV K H μ (pairD p) v) (b : RV K H μ (pairD q) v) : p = q := by
  subst hK
  cases a with
  | tup t s1 =>
    cases b with
    | tup t' s2 =>
      have e := I.tuple_inj t.sq t'.sq
      subst e
      cases s1 with
      | cons r1 r2 =>
        cases r2 with
        | cons r2 r3 =>
          cases r3; cases r1; cases r2
          cases s2 with
          | cons q1 q2 =>
            cases q2 with
            | cons q2 q3 =>
              cases q3
              obtain ⟨p1, p2⟩ := p
              obtain ⟨q1', q2'⟩ := q
              cases q1; cases q2
              rfl
theorem sorted_ok : CallR X (.builtin "sorted") (gN X.K sortedN) := fun pins s σ H vs us Q I rx ⟨μ, h, ds, d, h', R, r, e, k⟩ => by
  unfold sortedN at e
  split at e
  · split at e
    · rename_i xs ex
      cases r with
      | cons r1 r2 =>
        cases r2
        obtain ⟨a, ws, rfl, t, ss⟩ := D.atItems_ok R r1 ex
        split at e
        · rename_i ns en
          cases e
          rw [asInts_eq en] at ss
          rw [ss.of_ints] at t
          refine cr_sortedI pins s σ H _ us Q I rx ⟨a, ns, rfl, t, fun ns' p h1 h2 hp => ?_⟩
          rw [sortI_uniq h1 h2]
          exact k.newL R (RVs.ints _) p hp
        · split at e
          · rename_i zs ez
            split at e
            · rename_i hl
              cases e
              rw [asStrs_eq ez] at ss
              rw [ss.of_strs] at t
              refine cr_sortedS pins s σ H _ us Q I rx ⟨a, zs, rfl, t, hl, fun ys p h1 h2 hp => ?_⟩
              rw [sortS_uniq h1 (sortedS_pw h2)]
              refine k.newL R ?_ p hp
              exact RVs.strs _
            · cases e
          · split at e
            · rename_i ps ep
              cases e
              rw [asPairs_eq ep] at ss
              have hk : ∀ (v : V) (p : Int × Int), RV X.K H μ (pairD p) v → keyAt X.K H μ v = p := fun v p hv => by
                unfold keyAt
                have c : ∃ p, RV X.K H μ (pairD p) v := ⟨p, hv⟩
                rw [dif_pos c]
                exact RV.pair_inj I rfl (Classical.choose_spec c) hv

              have hm : ∀ v ∈ ws, ∃ p ∈ ps, RV X.K H μ (pairD p) v := fun v hv => by
                obtain ⟨d, hd, rr⟩ := ss.mem hv
                obtain ⟨p, hp, rfl⟩ := List.mem_map.mp hd
                exact ⟨p, hp, rr⟩
              have hmap : ∀ {vs : List V} {qs : List (Int × Int)}, RVs X.K H μ (qs.map pairD) vs → vs.map (keyAt X.K H μ) = qs := by
                intro vs qs
                induction qs generalizing vs with
                | nil => intro r; cases r; rfl
                | cons q qs ih =>
                  intro r
                  cases r with
                  | cons r1 r2 => rw [List.map_cons, hk _ _ r1, ih r2]
              refine cr_sortedPT pins s σ H _ us Q I rx ⟨a, ws, keyAt X.K H μ, rfl, t, fun x hx => ?_, fun ys p h1 h2 hp => ?_⟩
              · obtain ⟨p, _, rr⟩ := hm x hx
                rw [hk x p rr]
                cases rr with
                | tup t1 s1 =>
                  cases s1 with
                  | cons q1 q2 =>
                    cases q2 with
                    | cons q2 q3 =>
                      cases q3; cases q1; cases q2
                      exact ⟨_, rfl, t1.sq⟩
              · have ey : ys.map (keyAt X.K H μ) = sortP ps := by
                  refine sortP_uniq ?_ ?_
                  · have := h2.perm.map (keyAt X.K H μ)
                    rw [hmap ss] at this
                    exact this
                  · rw [List.pairwise_map]
                    refine h1.imp fun {x y} hxy => ?_
                    unfold leP
                    rw [Bool.not_eq_true']
                    exact hxy
                have := RVs.of_map (K := X.K) (H := H) (μ := μ) pairD (keyAt X.K H μ) ys fun v hv => by
                  obtain ⟨p, _, rr⟩ := hm v (h2.perm.mem_iff.mp hv)
                  rw [hk v p rr]
                  exact rr
                rw [ey] at this
                exact k.newL R this p hp
            · cases e
    · cases e
  · cases e
end

/-! ### methods of lists; stores -/
abbrev OM := D → List D → Hs → Option (D × Hs)
def gM (K : PySem.W.Frag) (g : OM) : V → List V → Hp → VK → Prop := fun vx vs H Q => ∃ μ h x ds d h', Rel K μ h H ∧ RV K H μ x vx ∧ RVs K H μ ds vs ∧ g x ds h = some (d, h') ∧ After K μ H d h' Q
def appendM : OM := fun x ds h => match x, ds with
  | .loc n, [d] => match h[n]? with
    | some (.lst xs) => if xs.length < sizeLine then some (.non, h.set n (.lst (xs ++ [d]))) else none
    | _ => none
  | _, _ => none
def extendM : OM := fun x ds h => match x, ds with
  | .loc n, [.loc m] => match h[n]?, h[m]? with
    | some (.lst xs), some (.lst ys) => if xs.length + ys.length ≤ sizeLine then some (.non, h.set n (.lst (xs ++ ys))) else none
    | _, _ => none
  | .loc n, [.tup ys] => match h[n]? with
    | some (.lst xs) => if xs.length + ys.length ≤ sizeLine then some (.non, h.set n (.lst (xs ++ ys))) else none
    | _ => none
  | _, _ => none
def popM : OM := fun x ds h => match x, ds with
  | .loc n, [] => match h[n]? with
    | some (.lst xs) => match xs[xs.length - 1]? with
      | some d => some (d, h.set n (.lst xs.dropLast))
      | none => none
    | _ => none
  | .loc n, [.int i] => match h[n]? with
    | some (.lst xs) => if -(2 ^ 63) ≤ i ∧ i < 2 ^ 63 then match seqIndex? i xs.length with
      | some k => match xs[k]? with
        | some d => some (d, h.set n (.lst (xs.eraseIdx k)))
        | none => none
      | none => none else none
    | _ => none
  | _, _ => none
def indexM : OM := fun x ds h => match x, ds with
  | .loc n, [d] => match itemsAt h n with
    | some xs => if flatD d = true ∧ xs.all flatD = true then match xs.findIdx? (fun z => eqF z d) with
      | some j => some (.int j, h)
      | none => none else none
    | none => none
  | _, _ => none
/-- x[i] = d -/
def setD (x i d : D) (h : Hs) : Option Hs := match x, i with
  | .loc n, .int k => match h[n]? with
    | some (.lst xs) => match ixN xs.length k with
      | some j => some (h.set n (.lst (xs.set j d)))
      | none => none
    | _ => none
  | _, _ => none
section
variable {X : Cx}
theorem meth_of {id : String} {g : OM} (c : ∀ μ h H x ds d h' vx vs Q, Rel X.K μ h H → RV X.K H μ x vx → RVs X.K H μ ds vs → g x ds h = some (d, h') → After X.K μ H d h' Q → ∃ r, MtR X id r ∧ r vx vs H Q) : MtR X id (gM X.K g) :=
  fun pins s σ H x xs v us Q I rx rxs ⟨μ, h, dx, ds, d, h', R, r1, r2, e, k⟩ => by
    obtain ⟨r', o, q⟩ := c μ h H dx ds d h' x xs Q R r1 r2 e k
    exact o pins s σ H x xs v us Q I rx rxs q
theorem append_ok : MtR X "list.append" (gM X.K appendM) := meth_of fun μ h H x ds d h' vx vs Q R r1 r2 e k => by
  unfold appendM at e
  split at e
  · split at e
    · rename_i n d0 xs e1
      split at e
      · rename_i hz
        cases e
        obtain ⟨a, rfl, ha⟩ := r1.loc_at
        obtain ⟨ws, h1, s1⟩ := R.lst e1 ha
        cases r2 with
        | cons q1 q2 =>
          cases q2
          exact ⟨_, mt_append, a, ws, _, rfl, rfl, h1, by rw [← s1.length]; exact hz, k.wr R e1 ha (s1.append (.cons q1 .nil)) .non⟩
      · cases e
    · cases e
  · cases e
theorem mt_extendT : MtR X "list.extend" (fun x vs H Q => ∃ l b xs zs, x = .ref l ∧ vs = [.ref b] ∧ H l = some (.lst xs) ∧ SqT X.K H b zs ∧ xs.length + zs.length ≤ sizeLine ∧ Q .non (upd H l (.lst (xs ++ zs)))) := by
  intro pins s σ H x vs v us Q I rx rv h
  obtain ⟨l, b, xs, zs, rfl, rfl, hH, hB, hz, q⟩ := h
  cases rx
  obtain ⟨u, rfl, ru⟩ := rv.one
  cases ru
  obtain ⟨z, its, n, r, hl, e⟩ := I.lstM hH
  obtain ⟨its2, r2, ⟨⟨oc, dd, od, sl⟩, e2, hc, n2, hd⟩, z2⟩ := I.tuple hB
  simp only at hc hd
  subst hc hd
  have hl2 : zs.length = its2.length := r2.length
  have hsz : its.toArray.size + its2.toArray.size ≤ sizeLine := by rw [List.size_toArray, List.size_toArray]; omega
  have hlong : ¬ (!its.toArray.isEmpty && Builtin.List.listTooLong (its.toArray.size + its2.toArray.size)) = true := by
    rw [notLongL hsz, Bool.and_false]
    exact Bool.false_ne_true
  refine call_meets F.slot_list_extend ⟨_, e, rfl⟩ F.entry_list_extend (F.args_list_extend_2 _ _)
    (AutoSeq1.list_extend_list_tupleX l its.toArray n b its2.toArray n2 dd sl hlong (by rw [List.size_toArray]; omega) (by omega)) ⟨e, e2, ?_⟩
  refine ⟨.non, _, I.lset (its' := its ++ its2) hH e (by simp) (r.append r2) ?_, rfl, q⟩
  rw [List.length_append]
  omega
theorem extend_ok : MtR X "list.extend" (gM X.K extendM) := meth_of fun μ h H x ds d h' vx vs Q R r1 r2 e k => by
  unfold extendM at e
  split at e
  · split at e
    · rename_i n m xs ys e1 e2
      split at e
      · rename_i hz
        cases e
        obtain ⟨a, rfl, ha⟩ := r1.loc_at
        obtain ⟨ws, h1, s1⟩ := R.lst e1 ha
        cases r2 with
        | cons q1 q2 =>
          cases q2
          obtain ⟨b, rfl, hb⟩ := q1.loc_at
          obtain ⟨us, h2, s2⟩ := R.lst e2 hb
          exact ⟨_, mt_extend, a, b, ws, us, rfl, rfl, h1, h2, by rw [← s1.length, ← s2.length]; exact hz, k.wr R e1 ha (s1.append s2) .non⟩
      · cases e
    · cases e
  · split at e
    · rename_i n ys xs e1
      split at e
      · rename_i hz
        cases e
        obtain ⟨a, rfl, ha⟩ := r1.loc_at
        obtain ⟨ws, h1, s1⟩ := R.lst e1 ha
        cases r2 with
        | cons q1 q2 =>
          cases q2
          cases q1 with
          | tup t s2 => exact ⟨_, mt_extendT, a, _, ws, _, rfl, rfl, h1, t.sq, by rw [← s1.length, ← s2.length]; exact hz, k.wr R e1 ha (s1.append s2) .non⟩
      · cases e
    · cases e
  · cases e
theorem pop_ok : MtR X "list.pop" (gM X.K popM) := meth_of fun μ h H x ds d h' vx vs Q R r1 r2 e k => by
  unfold popM at e
  split at e
  · split at e
    · rename_i n xs e1
      split at e
      · rename_i d0 e2
        cases e
        obtain ⟨a, rfl, ha⟩ := r1.loc_at
        obtain ⟨ws, h1, s1⟩ := R.lst e1 ha
        cases r2
        obtain ⟨w, hw, rw1⟩ := s1.get e2
        exact ⟨_, mt_pop, a, ws, w, rfl, rfl, h1, by rw [← s1.length]; exact hw, k.wr R e1 ha s1.dropLast rw1⟩
      · cases e
    · cases e
  · split at e
    · rename_i n i xs e1
      split at e
      · rename_i hb
        split at e
        · rename_i kk ek
          split at e
          · rename_i d0 e2
            cases e
            obtain ⟨a, rfl, ha⟩ := r1.loc_at
            obtain ⟨ws, h1, s1⟩ := R.lst e1 ha
            cases r2 with
            | cons q1 q2 =>
              cases q2; cases q1
              obtain ⟨w, hw, rw1⟩ := s1.get e2
              exact ⟨_, mt_popAt, a, ws, _, kk, w, rfl, rfl, h1, hb.1, hb.2, by rw [← s1.length]; exact ek, hw, k.wr R e1 ha (s1.eraseIdx kk) rw1⟩
          · cases e
        · cases e
      · cases e
    · cases e
  · cases e
theorem index_ok : MtR X "list.index" (gM X.K indexM) := meth_of fun μ h H x ds d h' vx vs Q R r1 r2 e k => by
  unfold indexM at e
  split at e
  · split at e
    · rename_i n d0 xs e1
      split at e
      · rename_i hf
        split at e
        · rename_i j ej
          cases e
          obtain ⟨a, rfl, ha⟩ := r1.loc_at
          obtain ⟨ws, t, s1⟩ := itemsAt_ok R e1 ha
          cases r2 with
          | cons q1 q2 =>
            cases q2
            obtain ⟨f1, _⟩ := RVs.flat q1 hf.1 s1 hf.2
            obtain ⟨hlt, hp, hno⟩ := List.findIdx?_eq_some_iff_getElem.mp ej
            have hx : xs[j]? = some xs[j] := List.getElem?_eq_getElem hlt
            obtain ⟨w, hw, rw1⟩ := s1.get hx
            have fl : ∀ z ∈ xs, flatD z = true := List.all_eq_true.mp hf.2
            refine ⟨_, mt_index, a, ws, _, j, w, rfl, rfl, t, (q1.flat hf.1).1, f1, hw, ?_, fun m z' hm hz => ?_, k.val R (.int _)⟩
            · rw [(q1.flat hf.1).2 _ _ rw1 (fl _ (List.mem_of_getElem? hx))]
              exact hp
            · obtain ⟨d', hd', rd'⟩ := s1.gets hz
              rw [(q1.flat hf.1).2 _ _ rd' (fl _ (List.mem_of_getElem? hd'))]
              obtain ⟨hlt', e'⟩ := List.getElem?_eq_some_iff.mp hd'
              have := hno m hm
              rw [e'] at this
              simpa using this
        · cases e
      · cases e
    · cases e
  · cases e
def gSet (K : PySem.W.Frag) : V → V → V → Hp → (Hp → Prop) → Prop := fun vo vi vv H Q => ∃ μ h x i d h', Rel K μ h H ∧ RV K H μ x vo ∧ RV K H μ i vi ∧ RV K H μ d vv ∧ setD x i d h = some h' ∧
  ∀ μ' H', Rel K μ' h' H' → Stp K μ H μ' H' → Q H'
theorem set_ok : PSet X (gSet X.K) := fun pins s σ H o i v ov iv u Q I ro ri rv ⟨μ, h, x, di, d, h', R, r1, r2, r3, e, k⟩ => by
  unfold setD at e
  split at e
  · split at e
    · rename_i n kk xs e1
      split at e
      · rename_i j ej
        cases e
        obtain ⟨a, rfl, ha⟩ := r1.loc_at
        cases r2
        obtain ⟨ws, h1, s1⟩ := R.lst e1 ha
        refine set_list pins s σ H _ _ v ov iv u Q I ro ri rv ⟨a, ws, _, j, rfl, rfl, h1, by rw [← s1.length]; exact ej, ?_⟩
        obtain ⟨R', S⟩ := R.write (u' := .lst (ws.set j v)) (o' := .lst (xs.set j d)) e1 rfl ha rfl fun u e m => ⟨_, upd_same, (s1.set r3 j).mono (Stp.upd e m)⟩
        exact k _ _ R' S
      · cases e
    · cases e
  · cases e
end
end MP

/-! text Mini6 -/
set_option Elab.async false
set_option linter.all false
set_option maxRecDepth 100000
set_option maxHeartbeats 4000000
namespace PySem
open Sem (wp)
open AutoSeq1 (wpAny_loadPart')
theorem meets_enumerate_newT {v : Value} {o : Obj} {H : Heap → Prop} (B : Begins v o H) :
    Meets (Builtin.«enumerate.__new__» ⟨[.type "enumerate", v], []⟩) (fun _ R s => H s.heap ∧
      R (.ok (.ret (.ref (s.heap.push o).objs.size))) { s with heap := (s.heap.push o).push { cls := .type "enumerate", data := .fields #[.none, .bool false, .ref s.heap.objs.size, rawInt 0, .none, .none] } }) :=
  .of_wp fun prog w A R s h => by
    obtain ⟨hp, g, d, tk, os⟩ := s; obtain ⟨h1, h⟩ := h
    have hsub := sub_enumerate
    have q1 : ∀ {A' : Around} {E : Value → Shared → Prop} {Q : Value → Shared → Prop}, Q (.ref hp.objs.size) ⟨hp.push o, g, d, tk, os⟩ → wpAny (model prog w) A' (pyIter v) Q E ⟨hp, g, d, tk, os⟩ :=
      fun q => B.iter prog w _ _ ⟨hp, g, d, tk, os⟩ _ h1 q
    wp_walk using q1
    refine wpAny_stack_any fun st => wpAny_pure ?_
    split
    · rename_i c _ _ _ _ _
      cases (c == Value.type "enumerate")
      · wp_walk using q1
        exact ⟨_, rfl, h⟩
      · wp_walk using q1
        exact ⟨_, rfl, h⟩
    · wp_walk using q1
      exact ⟨_, rfl, h⟩
section
variable {prog : Program} {w : World} {A : Around} {E : Value → Shared → Prop} {s : Shared}
theorem enum_begins1 {v : Value} {o : Obj} {H : Heap → Prop} {Q : Value → Shared → Prop} (B : Begins v o H) (h1 : H s.heap)
    (h : ∀ h', IsEnum h' (s.heap.objs.size + 1) s.heap.objs.size 0 .none → h'.get? s.heap.objs.size = some o → h'.objs.size = s.heap.objs.size + 2 →
      (∀ b o, s.heap.get? b = some o → h'.get? b = some o) → Q (.ref (s.heap.objs.size + 1)) { s with heap := h' }) :
    wpAny (model prog w) A (call (.type "enumerate") [v]) Q E s := by
  refine callType_new F.called_enumerate (by decide) (F.typeCall_enumerate_1 _) (F.newCall_enumerate_1 _) (fun obj => F.args_object_init_2 obj _) F.entry_enumerate_new
    (meets_enumerate_newT B) ⟨h1, ?_⟩
  have hz : (s.heap.push o).objs.size = s.heap.objs.size + 1 := Heap.size_push ..
  show _ ∧ _
  rw [hz]
  have he : IsEnum ((s.heap.push o).push { cls := .type "enumerate", data := .fields #[.none, .bool false, .ref s.heap.objs.size, rawInt 0, .none, .none] }) (s.heap.objs.size + 1) s.heap.objs.size 0 .none := by
    have := Heap.get?_push_size (s.heap.push o) (o := { cls := .type "enumerate", data := .fields #[.none, .bool false, .ref s.heap.objs.size, rawInt 0, .none, .none] }) rfl
    rw [hz] at this; exact this
  refine ⟨⟨_, he, rfl⟩, h _ he (Heap.get?_push_of_some _ (Heap.get?_push_size _ B.free)) (by rw [Heap.size_push, hz]) fun b o x => Heap.get?_push_of_some _ (Heap.get?_push_of_some _ x)⟩
end
end PySem
namespace MP
open PySem PySem.Spec PyProof.Rows L2
/-- enumerate(tuple) -/
def IteT (K : PySem.W.Frag) (a : Addr) : It :=
  ⟨fun i H => ∃ (xs : List V) (x : V), SqT K H a xs ∧ xs[i]? = some x, fun i H v H' => ∃ T x, v = .ref T ∧ H T = none ∧ H' = upd H T (.tup [.int (i : Nat), x]) ∧ ∀ xs, SqT K H a xs → xs[i]? = some x, fun i H => ∃ xs : List V, SqT K H a xs ∧ xs.length = i⟩
theorem turn_enumT {P : Program} {w : World} {K : PySem.W.Frag} {elts : List Expr} {kk : Nat} {tpos : Pos} (a e it : Addr) :
    Turn P w K (.Tuple elts kk tpos) (IteT K a) [e, it] e (fun i h => (∃ old, IsEnum h e it ((i : Nat) : Int) old) ∧ h.IsTupleIter it a i ∧ e ≠ it ∧ a ≠ e ∧ a ≠ it) where
  mem := by simp
  obj := fun i h st b hb => by
    obtain ⟨⟨old, he⟩, ⟨o, ho, hc, hd⟩, _⟩ := st
    have e' : b = e ∨ b = it := by simpa using hb
    rcases e' with z | z
    · rw [z]; exact ⟨_, he, fun v q => nomatch q⟩
    · rw [z]; exact ⟨o, ho, fun v q => by rw [hd] at q; cases q⟩
  keep := fun i h h' st k => let ⟨⟨old, he⟩, hi, hne⟩ := st; ⟨⟨old, k e (by simp) _ he⟩, hi.at fun o q => k it (by simp) o q, hne⟩
  item := by
    intro X hP hw hK hc i pins s σ H E I hf st hg
    subst hP hw hK
    obtain ⟨⟨old, he⟩, hit, hne, hae, hai⟩ := st
    obtain ⟨xs, x, hq, hx⟩ := hg
    obtain ⟨its, rv, p, hz⟩ := I.tuple hq
    obtain ⟨u, hu, ru⟩ := rv.get hx
    have hel : e < s.heap.objs.size := Heap.lt_size he
    have hil : it < s.heap.objs.size := by obtain ⟨_, q, _⟩ := hit; exact Heap.lt_size q
    have hlt : i < its.toArray.size := by
      have := (List.getElem?_eq_some_iff.mp hu).1
      simpa using this
    refine wpAny_pyNext_enum_itemD (Draws.tuple (show X.A.in1.handled = none from I.ok.hd hc) it a hai its.toArray) he ⟨hit, p⟩ hlt hne (by simp [hne, Ne.symm hae]) fun xv h' tk hP ho hst hT hsz hk => ?_
    have exv : xv = u := by
      have : its.toArray[i]? = some xv := hP
      rw [List.getElem?_toArray, hu] at this
      exact (Option.some.inj this).symm
    subst exv
    refine ⟨_, rfl, wpAny_letOwnedTupleGo_enum (s := { s with heap := h', toks := tk + 1 }) ho fun h'' he' sb => ?_⟩
    have hT2 : h''.get? s.heap.objs.size = some { cls := .type "tuple", data := .seq #[.int i tk, xv] } := (sb.2 _ (Nat.ne_of_gt hel)).trans hT
    have new : ObjOk X.prog X.w (upd H s.heap.objs.size (.tup [.int (i : Nat), x])) h'' s.heap.objs.size (.tup [.int (i : Nat), x]) :=
      ⟨by show 2 ≤ sizeLine; decide, [.int i tk, xv], .cons ⟨_, rfl⟩ (.cons ru .nil), ⟨_, hT2, rfl, _, rfl⟩⟩
    have I1 : Inv X pins σ (upd H s.heap.objs.size (.tup [.int (i : Nat), x])) { s with heap := h'', toks := tk + 1 } :=
      I.turnedNew (ch := [e, it]) (fun b ob hb q => (sb.2 b (fun z => hb (by simp [z]))).trans (hk b ob (fun z => hb (by simp [z])) (fun z => hb (by simp [z])) q)) hf (Nat.le_refl _) new
    refine ⟨.ref s.heap.objs.size, _, I1, rfl, ⟨_, x, rfl, I.hok.fresh (Nat.le_refl _), rfl, fun ys hy => by rw [I.tuple_inj hy hq]; exact hx⟩, ⟨⟨xv, ?_⟩, hst.1.at fun o q => (sb.2 it (Ne.symm hne)).trans q, hne, hae, hai⟩, fun b hb => ?_⟩
    · have e1 : ((i + 1 : Nat) : Int) = (i : Int) + 1 := by omega
      rw [e1]; exact he'
    · have hb' : b < s.heap.objs.size := by
        have e' : b = e ∨ b = it := by simpa using hb
        rcases e' with z | z
        · rw [z]; exact hel
        · rw [z]; exact hil
      rw [upd_ne (Nat.ne_of_lt hb')]
      exact (hf b hb).1
  done := by
    intro X hP hw hK hc i pins s σ H E I hf st hg
    subst hP hw hK
    obtain ⟨⟨old, he⟩, hit, hne, hae, hai⟩ := st
    obtain ⟨xs, hq, hx⟩ := hg
    obtain ⟨its, rv, p, hz⟩ := I.tuple hq
    obtain ⟨f0, f1, f2, f3, f4, f5⟩ := hf it (by simp)
    have hl := rv.length
    have ei : i = its.toArray.size := by rw [List.size_toArray]; omega
    rw [ei] at hit
    exact wpAny_pyNext_enum_endD (Draws.tuple (show X.A.in1.handled = none from I.ok.hd hc) it a hai its.toArray) he ⟨hit, p⟩ fun h' eb => ⟨rfl, I.turned (t' := s.toks) (fun b o hb q => eb b o hb q) f0 f1 f3 f4 f5⟩
  self := fun A i s Q E st h => let ⟨⟨_, he⟩, _⟩ := st; wpAny_pyIter_enum he h
def iEnumT (K : PySem.W.Frag) (ta : TA) : TI := fun σ H R => ta σ H fun vs H1 => ∃ a xs, vs = [.ref a] ∧ SqT K H1 a xs ∧ R (IteT K a) H1
theorem pi_enumT {X : Cx} {e : Expr} {ta : TA} {p pos tpos : Pos} {elts : List Expr} {kk : Nat} (hg : Gl X "enumerate") (hm : X.mg "enumerate" = none) (ha : PA X [e] ta) (hs : starEach [e] X.env = [(false, eval e X.env)]) :
    PI X (.Tuple elts kk tpos) (.Call (.Name "enumerate" p) [e] [] pos) (iEnumT X.K ta) := by
  refine ⟨fun pins s σ H R I h => ?_⟩
  refine Call_ (ld_blt I hg hm boot_enumerate (PyProof.Rows.callWith_type1 (thn (ha.run pos pins s σ H _ I h) fun us s1 ⟨vs, H1, I1, r1, q1⟩ => ?_) hs rfl))
  obtain ⟨a, xs, ex, hq, q⟩ := q1
  subst ex
  cases r1 with
  | cons r rr =>
    cases rr
    cases r
    obtain ⟨its, rv, p', hz⟩ := I1.tuple hq
    have hal : a < s1.heap.objs.size := p'.lt
    refine enum_begins1 (begins_tuple a its.toArray) p' fun h' he hit hsz hk => wpAny_pyIter_enum he ?_
    have I2 : Inv X pins σ H1 { s1 with heap := h' } := I1.kept (t' := s1.toks) hk
    refine ⟨s1.heap.objs.size + 1, [s1.heap.objs.size + 1, s1.heap.objs.size], _, _, H1, rfl, I2, turn_enumT a (s1.heap.objs.size + 1) s1.heap.objs.size, ⟨⟨.none, he⟩, ⟨_, hit, rfl, rfl⟩, Nat.succ_ne_self _, Nat.ne_of_lt (Nat.lt_succ_of_lt hal), Nat.ne_of_lt hal⟩, fun b hb => ?_, q⟩
    have e' : b = s1.heap.objs.size + 1 ∨ b = s1.heap.objs.size := by simpa using hb
    have hle : s1.heap.objs.size ≤ b := by
      rcases e' with z | z
      · rw [z]; exact Nat.le_add_right _ _
      · rw [z]; exact Nat.le_refl _
    exact I1.fpOk hle (I1.hok.fresh hle)
end MP

/-! text Mini7 -/
set_option Elab.async false
set_option linter.all false
set_option maxRecDepth 100000
set_option maxHeartbeats 4000000
namespace MP
open PySem PySem.Spec PyProof.Rows
open L2 hiding St
abbrev Sl := L2.St

/-! ### the slots -/
structure REnv (K : PySem.W.Frag) (H : Hp) (μ : List Addr) (ρ : Rho) (σ : Sl) : Prop where
  len : ρ.length = σ.length
  at_ : ∀ (i : Nat) (d : D), ρ[i]? = some (some d) → ∃ v, σ[i]? = some (some v) ∧ RV K H μ d v
section
variable {K : PySem.W.Frag} {H H' : Hp} {μ μ' : List Addr} {ρ : Rho} {σ : Sl}
theorem REnv.mono (r : REnv K H μ ρ σ) (S : Stp K μ H μ' H') : REnv K H' μ' ρ σ := ⟨r.len, fun i d e => let ⟨v, a, b⟩ := r.at_ i d e; ⟨v, a, b.mono S⟩⟩
theorem REnv.set (r : REnv K H μ ρ σ) {d : D} {v : V} (rv : RV K H μ d v) (i : Nat) : REnv K H μ (ρ.set i (some d)) (σ.set i (some v)) :=
  ⟨by rw [List.length_set, List.length_set]; exact r.len, fun j e he => by
    by_cases hj : i = j
    · subst hj
      by_cases hl : i < ρ.length
      · rw [List.getElem?_set_self hl] at he
        cases he
        exact ⟨v, by rw [List.getElem?_set_self (by rw [← r.len]; exact hl)], rv⟩
      · rw [List.getElem?_eq_none (by rw [List.length_set]; omega)] at he
        cases he
    · rw [List.getElem?_set_ne hj] at he ⊢
      exact r.at_ j e he⟩
/-- slots forgotten -/
def wipeR (ρ : Rho) : List Nat → Rho
  | [] => ρ
  | v :: vs => (wipeR ρ vs).set v none
theorem REnv.wipe (r : REnv K H μ ρ σ) : ∀ vs : List Nat, REnv K H μ (wipeR ρ vs) (L2.wipe σ vs)
  | [] => r
  | v :: vs => by
    have ih := REnv.wipe r vs
    refine ⟨by unfold wipeR L2.wipe; rw [List.length_set, List.length_set]; exact ih.len, fun j e he => ?_⟩
    unfold wipeR at he
    unfold L2.wipe
    by_cases hj : v = j
    · subst hj
      by_cases hl : v < (wipeR ρ vs).length
      · rw [List.getElem?_set_self hl] at he
        cases he
      · rw [List.getElem?_eq_none (by rw [List.length_set]; omega)] at he
        cases he
    · rw [List.getElem?_set_ne hj] at he ⊢
      exact ih.at_ j e he
end
/-- what is stored lies in these slots -/
structure Out (is : List Nat) (σ σ' : Sl) : Prop where
  len : σ'.length = σ.length
  out : ∀ j, j ∉ is → σ'[j]? = σ[j]?
theorem Out.refl (is : List Nat) (σ : Sl) : Out is σ σ := ⟨rfl, fun _ _ => rfl⟩
theorem Out.trans {is : List Nat} {σ σ1 σ2 : Sl} (a : Out is σ σ1) (b : Out is σ1 σ2) : Out is σ σ2 := ⟨b.len.trans a.len, fun j h => (b.out j h).trans (a.out j h)⟩
theorem Out.mono {is js : List Nat} {σ σ1 : Sl} (a : Out is σ σ1) (h : ∀ i ∈ is, i ∈ js) : Out js σ σ1 := ⟨a.len, fun j hj => a.out j fun z => hj (h j z)⟩
theorem wipe_len (σ : Sl) : ∀ vs : List Nat, (wipe σ vs).length = σ.length := fun vs => wipe_length σ vs
theorem wipe_in (σ : Sl) : ∀ {vs : List Nat} {j : Nat}, j ∈ vs → (wipe σ vs)[j]? = if j < σ.length then some none else none
  | v :: vs, j, h => by
    unfold wipe
    by_cases hj : v = j
    · subst hj
      by_cases hl : v < σ.length
      · rw [List.getElem?_set_self (by rw [wipe_len]; exact hl), if_pos hl]
      · rw [List.getElem?_eq_none (by rw [List.length_set, wipe_len]; omega), if_neg hl]
    · rw [List.getElem?_set_ne hj]
      rcases List.mem_cons.mp h with e | h
      · exact absurd e.symm hj
      · exact wipe_in σ h
theorem Out.wipe {vs : List Nat} {σ σ' : Sl} (o : Out vs σ σ') : wipe σ' vs = wipe σ vs := by
  refine List.ext_getElem? fun j => ?_
  by_cases h : j ∈ vs
  · rw [wipe_in σ' h, wipe_in σ h, o.len]
  · rw [wipe_out h, wipe_out h, o.out j h]

/-! ### what is run -/
abbrev EM := Rho → Hs → Option (D × Hs)
abbrev BM := Rho → Hs → Option (Bool × Hs)
abbrev AM := Rho → Hs → Option (List D × Hs)
abbrev PM := Rho → Hs → Option (Option Int × Hs)
abbrev Gd := Option (Nat × List D)
abbrev IM := Rho → Hs → Option ((List D × Gd) × Hs)
abbrev GM := D → Rho → Hs → Option (Rho × Hs)
abbrev GsM := List D → Rho → Hs → Option (Rho × Hs)
inductive Fl where
  | nx | bk | ct | rt (d : D)
abbrev SM := Rho → Hs → Option (Fl × Rho × Hs)

def tEm (K : PySem.W.Frag) (m : EM) : TE := fun σ H Q => ∃ μ ρ h d h', Rel K μ h H ∧ REnv K H μ ρ σ ∧ m ρ h = some (d, h') ∧ After K μ H d h' Q
def tBm (K : PySem.W.Frag) (m : BM) : TT := fun σ H Q => ∃ μ ρ h b h', Rel K μ h H ∧ REnv K H μ ρ σ ∧ m ρ h = some (b, h') ∧ ∀ μ' H', Rel K μ' h' H' → Stp K μ H μ' H' → Q b H'
def tAm (K : PySem.W.Frag) (m : AM) : TA := fun σ H Q => ∃ μ ρ h ds h', Rel K μ h H ∧ REnv K H μ ρ σ ∧ m ρ h = some (ds, h') ∧ ∀ μ' H' vs, Rel K μ' h' H' → Stp K μ H μ' H' → RVs K H' μ' ds vs → Q vs H'
def tPm (K : PySem.W.Frag) (m : PM) : TO := fun σ H Q => ∃ μ ρ h o h', Rel K μ h H ∧ REnv K H μ ρ σ ∧ m ρ h = some (o, h') ∧ ∀ μ' H', Rel K μ' h' H' → Stp K μ H μ' H' → Q o H'
def tGm (K : PySem.W.Frag) (is : List Nat) (m : GM) : TG := fun v σ H Q => ∃ μ ρ h d ρ' h', Rel K μ h H ∧ REnv K H μ ρ σ ∧ RV K H μ d v ∧ m d ρ h = some (ρ', h') ∧
  ∀ μ' H' σ', Rel K μ' h' H' → Stp K μ H μ' H' → REnv K H' μ' ρ' σ' → Out is σ σ' → Q σ' H'
def tGsm (K : PySem.W.Frag) (is : List Nat) (m : GsM) : TGs := fun vs σ H Q => ∃ μ ρ h ds ρ' h', Rel K μ h H ∧ REnv K H μ ρ σ ∧ RVs K H μ ds vs ∧ m ds ρ h = some (ρ', h') ∧
  ∀ μ' H' σ', Rel K μ' h' H' → Stp K μ H μ' H' → REnv K H' μ' ρ' σ' → Out is σ σ' → Q σ' H'
def EndS (K : PySem.W.Frag) (μ' : List Addr) (H' : Hp) (ρ' : Rho) (D : Ends) : Fl → Prop
  | .nx => ∀ σ', REnv K H' μ' ρ' σ' → D.nx σ' H'
  | .bk => ∀ σ', REnv K H' μ' ρ' σ' → D.bk σ' H'
  | .ct => ∀ σ', REnv K H' μ' ρ' σ' → D.ct σ' H'
  | .rt d => ∀ v, RV K H' μ' d v → D.rt v H'
def tSm (K : PySem.W.Frag) (m : SM) : TS := fun D σ H => ∃ μ ρ h f ρ' h', Rel K μ h H ∧ REnv K H μ ρ σ ∧ m ρ h = some (f, ρ', h') ∧ ∀ μ' H', Rel K μ' h' H' → Stp K μ H μ' H' → EndS K μ' H' ρ' D f

/-! ### weakening -/
section
variable {X : Cx}
theorem _root_.L2.PE.imp {e : Expr} {t t' : TE} (p : PE X e t) (i : ∀ σ H Q, t' σ H Q → t σ H Q) : PE X e t' := ⟨fun pins s σ H Q I q => p.run pins s σ H Q I (i σ H Q q)⟩
theorem _root_.L2.PT.imp {e : Expr} {t t' : TT} (p : PT X e t) (i : ∀ σ H Q, t' σ H Q → t σ H Q) : PT X e t' := ⟨fun pins s σ H Q I q => p.run pins s σ H Q I (i σ H Q q)⟩
theorem _root_.L2.PW.imp {e : Expr} {t t' : TT} (p : PW X e t) (i : ∀ σ H Q, t' σ H Q → t σ H Q) : PW X e t' := ⟨fun w pins s σ H Q I q => p.run w pins s σ H Q I (i σ H Q q)⟩
theorem _root_.L2.PTs.imp {e : List Expr} {t t' : TT} (p : PTs X e t) (i : ∀ σ H Q, t' σ H Q → t σ H Q) : PTs X e t' := ⟨fun pins s σ H Q I q => p.run pins s σ H Q I (i σ H Q q)⟩
theorem _root_.L2.PA.imp {e : List Expr} {t t' : TA} (p : PA X e t) (i : ∀ σ H Q, t' σ H Q → t σ H Q) : PA X e t' := ⟨fun pos pins s σ H Q I q => p.run pos pins s σ H Q I (i σ H Q q)⟩
theorem _root_.L2.PO.imp {e : Option Expr} {t t' : TO} (p : PO X e t) (i : ∀ σ H Q, t' σ H Q → t σ H Q) : PO X e t' := ⟨fun pins s σ H Q I q => p.run pins s σ H Q I (i σ H Q q)⟩
theorem _root_.L2.PS.imp {e : Stmt} {t t' : TS} (p : PS X e t) (i : ∀ D σ H, t' D σ H → t D σ H) : PS X e t' := ⟨fun pins s σ H D I q => p.run pins s σ H D I (i D σ H q)⟩
theorem _root_.L2.PSs.imp {e : List Stmt} {t t' : TS} (p : PSs X e t) (i : ∀ D σ H, t' D σ H → t D σ H) : PSs X e t' := ⟨fun pins s σ H D I q => p.run pins s σ H D I (i D σ H q)⟩
theorem _root_.L2.PG.imp {e : Expr} {t t' : TG} (p : PG X e t) (i : ∀ v σ H Q, t' v σ H Q → t v σ H Q) : PG X e t' := ⟨fun pins s σ H v u Q I r q => p.run pins s σ H v u Q I r (i v σ H Q q)⟩
theorem _root_.L2.PGs.imp {e : List Expr} {t t' : TGs} (p : PGs X e t) (i : ∀ v σ H Q, t' v σ H Q → t v σ H Q) : PGs X e t' := ⟨fun pins s σ H v u Q I r q => p.run pins s σ H v u Q I r (i v σ H Q q)⟩
theorem _root_.L2.PI.imp {tg e : Expr} {t t' : TI} (p : PI X tg e t) (i : ∀ σ H Q, t' σ H Q → t σ H Q) : PI X tg e t' := ⟨fun pins s σ H Q I q => p.run pins s σ H Q I (i σ H Q q)⟩
end

/-! ### expressions -/
def mNo : EM := fun _ _ => none
def mC (d : D) : EM := fun _ h => some (d, h)
def mVar (i : Nat) : EM := fun ρ h => match ρ[i]? with
  | some (some d) => some (d, h)
  | _ => none
def mOp2 (g : O2) (ma mb : EM) : EM := fun ρ h => (ma ρ h).bind fun r1 => (mb ρ r1.2).bind fun r2 => g r1.1 r2.1 r2.2
def mOp1 (g : O1) (ma : EM) : EM := fun ρ h => (ma ρ h).bind fun r1 => g r1.1 r1.2
def negO : O1 := fun x h => match x with
  | .int i => some (.int (-i), h)
  | _ => none
def aNil : AM := fun _ h => some ([], h)
def aCons (me : EM) (ma : AM) : AM := fun ρ h => (me ρ h).bind fun r1 => (ma ρ r1.2).bind fun r2 => some (r1.1 :: r2.1, r2.2)
def mCallN (g : ON) (ma : AM) : EM := fun ρ h => (ma ρ h).bind fun r => g r.1 r.2
def mCallF (n : Nat) (g : ON) (ma : AM) : EM := fun ρ h => (ma ρ h).bind fun r => if r.1.length = n then g r.1 r.2 else none
def isLst (h : Hs) : D → Bool
  | .loc n => match h[n]? with
    | some (.lst _) => true
    | some (.frz _) => true
    | _ => false
  | _ => false
def mMeth (ty : Hs → D → Bool) (g : OM) (mo : EM) (ma : AM) : EM := fun ρ h => (mo ρ h).bind fun r1 => if ty r1.2 r1.1 = true then (ma ρ r1.2).bind fun r2 => g r1.1 r2.1 r2.2 else none
def mTup (ma : AM) : EM := fun ρ h => (ma ρ h).bind fun r => if r.1.length ≤ sizeLine then some (.tup r.1, r.2) else none
def mLst (ma : AM) : EM := fun ρ h => (ma ρ h).bind fun r => if r.1.length ≤ sizeLine then some (.loc r.2.length, r.2 ++ [.lst r.1]) else none
def mIf (mt : BM) (ma mb : EM) : EM := fun ρ h => (mt ρ h).bind fun r => if r.1 = true then ma ρ r.2 else mb ρ r.2
def mAndV (ma mb : EM) : EM := fun ρ h => (ma ρ h).bind fun r => match truD r.2 r.1 with
  | some true => mb ρ r.2
  | some false => some r
  | none => none
def mOrV (ma mb : EM) : EM := fun ρ h => (ma ρ h).bind fun r => match truD r.2 r.1 with
  | some true => some r
  | some false => mb ρ r.2
  | none => none
def mNotV (ma : EM) : EM := fun ρ h => (ma ρ h).bind fun r => match truD r.2 r.1 with
  | some b => some (.bl (!b), r.2)
  | none => none
def mChain (g g' : O2) (ma mb mc : EM) : EM := fun ρ h => (ma ρ h).bind fun r1 => (mb ρ r1.2).bind fun r2 => (g r1.1 r2.1 r2.2).bind fun r3 => match r3.1 with
  | .bl true => (mc ρ r3.2).bind fun r4 => g' r2.1 r4.1 r4.2
  | .bl false => some (.bl false, r3.2)
  | _ => none
def pNo : PM := fun _ h => some (none, h)
def pInt (me : EM) : PM := fun ρ h => (me ρ h).bind fun r => match r.1 with
  | .int i => some (some i, r.2)
  | _ => none
def mSl (ma : EM) (ml mu : PM) : EM := fun ρ h => (ma ρ h).bind fun r1 => (ml ρ r1.2).bind fun r2 => (mu ρ r2.2).bind fun r3 => slO r1.1 r2.1 r3.1 r3.2
/-! tests -/
def bTru (ma : EM) : BM := fun ρ h => (ma ρ h).bind fun r => (truD r.2 r.1).map fun b => (b, r.2)
def bBool (ma : EM) : BM := fun ρ h => (ma ρ h).bind fun r => match r.1 with
  | .bl b => some (b, r.2)
  | _ => none
def bNot (ma : BM) : BM := fun ρ h => (ma ρ h).map fun r => (!r.1, r.2)
def bAnd (ma mb : BM) : BM := fun ρ h => (ma ρ h).bind fun r => if r.1 = true then mb ρ r.2 else some (false, r.2)
def bOr (ma mb : BM) : BM := fun ρ h => (ma ρ h).bind fun r => if r.1 = true then some (true, r.2) else mb ρ r.2
def bYes : BM := fun _ h => some (true, h)
def bNo : BM := fun _ _ => none

theorem bind_some {α β : Type} {o : Option α} {f : α → Option β} {y : β} (e : o.bind f = some y) : ∃ x, o = some x ∧ f x = some y := Option.bind_eq_some_iff.mp e

section
variable {X : Cx} {a b c e : Expr} {ma mb mc me : EM} {pos : Pos}
theorem pe_no : PE X e (tEm X.K mNo) := ⟨fun pins s σ H Q I ⟨_, _, _, _, _, _, _, z, _⟩ => nomatch z⟩
theorem pe_C {d : D} {v : V} (h : PE X e (tC v)) (r : ∀ H μ, RV X.K H μ d v) : PE X e (tEm X.K (mC d)) := h.imp fun σ H Q ⟨μ, ρ, h, d, h', R, N, e, k⟩ => by
  cases e
  exact k.val R (r H μ)
theorem pe_V {i : Nat} (h : PE X e (tVar i)) : PE X e (tEm X.K (mVar i)) := h.imp fun σ H Q ⟨μ, ρ, h, d, h', R, N, e, k⟩ => by
  unfold mVar at e
  split at e
  · rename_i d0 e0
    cases e
    obtain ⟨v, e1, r⟩ := N.at_ i _ e0
    exact ⟨v, e1, k.val R r⟩
  · cases e
theorem pe_2 {op : Operator} {g : O2} (ho : OpR X (binaryOp op) (g2 X.K g)) (ha : PE X a (tEm X.K ma)) (hb : PE X b (tEm X.K mb)) : PE X (.BinOp a op b pos) (tEm X.K (mOp2 g ma mb)) :=
  (pe_op ho ha hb).imp fun σ H Q ⟨μ, ρ, h, d, h', R, N, e, k⟩ => by
    obtain ⟨⟨x, h1⟩, e1, e⟩ := bind_some e
    obtain ⟨⟨y, h2⟩, e2, e⟩ := bind_some e
    exact ⟨μ, ρ, h, x, h1, R, N, e1, fun μ1 H1 vx R1 S1 rx => ⟨μ1, ρ, h1, y, h2, R1, N.mono S1, e2, fun μ2 H2 vy R2 S2 ry => ⟨μ2, h2, x, y, d, h', R2, rx.mono S2, ry, e, fun μ3 H3 v R3 S3 rv => k μ3 H3 v R3 (S1.trans (S2.trans S3)) rv⟩⟩⟩
theorem pe_cmp2 {op : CmpOp} {g : O2} (ho : OpR X (compareOp op) (g2 X.K g)) (ha : PE X a (tEm X.K ma)) (hb : PE X b (tEm X.K mb)) (hm : behindInMarks op b = false) : PE X (.Compare a [op] [b] pos) (tEm X.K (mOp2 g ma mb)) :=
  (pe_cmpR ho ha hb hm).imp fun σ H Q ⟨μ, ρ, h, d, h', R, N, e, k⟩ => by
    obtain ⟨⟨x, h1⟩, e1, e⟩ := bind_some e
    obtain ⟨⟨y, h2⟩, e2, e⟩ := bind_some e
    exact ⟨μ, ρ, h, x, h1, R, N, e1, fun μ1 H1 vx R1 S1 rx => ⟨μ1, ρ, h1, y, h2, R1, N.mono S1, e2, fun μ2 H2 vy R2 S2 ry => ⟨μ2, h2, x, y, d, h', R2, rx.mono S2, ry, e, fun μ3 H3 v R3 S3 rv => k μ3 H3 v R3 (S1.trans (S2.trans S3)) rv⟩⟩⟩
theorem chain_to {g g' : O2} {σ : Sl} {H : Hp} {Q : VK} (t : tEm X.K (mChain g g' ma mb mc) σ H Q) : tChain (g2 X.K g) (g2 X.K g') (tEm X.K ma) (tEm X.K mb) (tEm X.K mc) σ H Q := by
  obtain ⟨μ, ρ, h, d, h', R, N, e, k⟩ := t
  obtain ⟨⟨x, h1⟩, e1, e⟩ := bind_some e
  obtain ⟨⟨y, h2⟩, e2, e⟩ := bind_some e
  obtain ⟨⟨z, h3⟩, e3, e⟩ := bind_some e
  refine ⟨μ, ρ, h, x, h1, R, N, e1, fun μ1 H1 vx R1 S1 rx => ⟨μ1, ρ, h1, y, h2, R1, N.mono S1, e2, fun μ2 H2 vy R2 S2 ry => ⟨μ2, h2, x, y, z, h3, R2, rx.mono S2, ry, e3, fun μ3 H3 vz R3 S3 rz => ?_⟩⟩⟩
  split at e
  · rename_i ez
    have ez' : z = .bl true := ez
    subst ez'
    cases rz
    obtain ⟨⟨w, h4⟩, e4, e⟩ := bind_some e
    exact ⟨true, rfl, ⟨μ3, ρ, h3, w, h4, R3, (N.mono S1).mono (S2.trans S3), e4, fun μ4 H4 vw R4 S4 rw' => ⟨μ4, h4, y, w, d, h', R4, (ry.mono S3).mono S4, rw', e, fun μ5 H5 v R5 S5 rv => k μ5 H5 v R5 (S1.trans (S2.trans (S3.trans (S4.trans S5)))) rv⟩⟩⟩
  · rename_i ez
    have ez' : z = .bl false := ez
    subst ez'
    cases rz
    cases e
    exact ⟨false, rfl, k μ3 H3 _ R3 (S1.trans (S2.trans S3)) (.bl false)⟩
  · cases e
theorem pe_chain2 {op op' : CmpOp} {g g' : O2} (ho : OpR X (compareOp op) (g2 X.K g)) (ho' : OpR X (compareOp op') (g2 X.K g')) (ha : PE X a (tEm X.K ma)) (hb : PE X b (tEm X.K mb)) (hc : PE X c (tEm X.K mc))
    (hm : lastMarks [op, op'] [b, c] = false) : PE X (.Compare a [op, op'] [b, c] pos) (tEm X.K (mChain g g' ma mb mc)) := (pe_chain ho ho' ha hb hc hm).imp fun σ H Q t => chain_to t
theorem pe_ix2 (ha : PE X a (tEm X.K ma)) (hb : PE X b (tEm X.K mb)) (hs : PlainIx b) : PE X (.Subscript a b pos) (tEm X.K (mOp2 ixO ma mb)) :=
  (pe_ix ix_ok ha hb hs).imp fun σ H Q ⟨μ, ρ, h, d, h', R, N, e, k⟩ => by
    obtain ⟨⟨x, h1⟩, e1, e⟩ := bind_some e
    obtain ⟨⟨y, h2⟩, e2, e⟩ := bind_some e
    exact ⟨μ, ρ, h, x, h1, R, N, e1, fun μ1 H1 vx R1 S1 rx => ⟨μ1, ρ, h1, y, h2, R1, N.mono S1, e2, fun μ2 H2 vy R2 S2 ry => ⟨μ2, h2, x, y, d, h', R2, rx.mono S2, ry, e, fun μ3 H3 v R3 S3 rv => k μ3 H3 v R3 (S1.trans (S2.trans S3)) rv⟩⟩⟩
theorem pe_neg2 (ha : PE X a (tEm X.K ma)) : PE X (.UnaryOp .USub a pos) (tEm X.K (mOp1 negO ma)) := (pe_un un_neg ha).imp fun σ H Q ⟨μ, ρ, h, d, h', R, N, e, k⟩ => by
  obtain ⟨⟨x, h1⟩, e1, e⟩ := bind_some e
  refine ⟨μ, ρ, h, x, h1, R, N, e1, fun μ1 H1 vx R1 S1 rx => ?_⟩
  unfold negO at e
  split at e
  · rename_i i hi
    have hi' : x = .int i := hi
    subst hi'
    cases e
    cases rx
    exact ⟨i, rfl, k μ1 H1 _ R1 S1 (.int _)⟩
  · cases e
theorem pe_not2 (ha : PE X a (tEm X.K ma)) : PE X (.UnaryOp .Not a pos) (tEm X.K (mNotV ma)) := (pe_notT ha).imp fun σ H Q ⟨μ, ρ, h, d, h', R, N, e, k⟩ => by
  obtain ⟨⟨x, h1⟩, e1, e⟩ := bind_some e
  refine ⟨μ, ρ, h, x, h1, R, N, e1, fun μ1 H1 vx R1 S1 rx => ?_⟩
  split at e
  · rename_i b eb
    cases e
    exact ⟨b, truD_ok R1 rx eb, k μ1 H1 _ R1 S1 (.bl _)⟩
  · cases e
theorem pe_and2 {rest : List Expr} (ha : PE X a (tEm X.K ma)) (hb : PE X (.BoolOp .And (b :: rest) pos) (tEm X.K mb)) : PE X (.BoolOp .And (a :: b :: rest) pos) (tEm X.K (mAndV ma mb)) := (pe_andT ha hb).imp fun σ H Q ⟨μ, ρ, h, d, h', R, N, e, k⟩ => by
  obtain ⟨⟨x, h1⟩, e1, e⟩ := bind_some e
  refine ⟨μ, ρ, h, x, h1, R, N, e1, fun μ1 H1 vx R1 S1 rx => ?_⟩
  split at e
  · rename_i eb
    refine ⟨true, truD_ok R1 rx eb, ?_⟩
    rw [if_pos rfl]
    exact ⟨μ1, ρ, h1, d, h', R1, N.mono S1, e, fun μ2 H2 v R2 S2 rv => k μ2 H2 v R2 (S1.trans S2) rv⟩
  · rename_i eb
    cases e
    refine ⟨false, truD_ok R1 rx eb, ?_⟩
    rw [if_neg (by decide)]
    exact k μ1 H1 _ R1 S1 rx
  · cases e
theorem pe_or2 {rest : List Expr} (ha : PE X a (tEm X.K ma)) (hb : PE X (.BoolOp .Or (b :: rest) pos) (tEm X.K mb)) : PE X (.BoolOp .Or (a :: b :: rest) pos) (tEm X.K (mOrV ma mb)) := (pe_orT ha hb).imp fun σ H Q ⟨μ, ρ, h, d, h', R, N, e, k⟩ => by
  obtain ⟨⟨x, h1⟩, e1, e⟩ := bind_some e
  refine ⟨μ, ρ, h, x, h1, R, N, e1, fun μ1 H1 vx R1 S1 rx => ?_⟩
  split at e
  · rename_i eb
    cases e
    refine ⟨true, truD_ok R1 rx eb, ?_⟩
    rw [if_pos rfl]
    exact k μ1 H1 _ R1 S1 rx
  · rename_i eb
    refine ⟨false, truD_ok R1 rx eb, ?_⟩
    rw [if_neg (by decide)]
    exact ⟨μ1, ρ, h1, d, h', R1, N.mono S1, e, fun μ2 H2 v R2 S2 rv => k μ2 H2 v R2 (S1.trans S2) rv⟩
  · cases e
theorem pe_if2 {t : Expr} {mt : BM} (ht : PT X t (tBm X.K mt)) (ha : PE X a (tEm X.K ma)) (hb : PE X b (tEm X.K mb)) : PE X (.IfExp t a b pos) (tEm X.K (mIf mt ma mb)) := (pe_ifExp ht ha hb).imp fun σ H Q ⟨μ, ρ, h, d, h', R, N, e, k⟩ => by
  obtain ⟨⟨x, h1⟩, e1, e⟩ := bind_some e
  refine ⟨μ, ρ, h, x, h1, R, N, e1, fun μ1 H1 R1 S1 => ?_⟩
  cases x with
  | true => exact ⟨μ1, ρ, h1, d, h', R1, N.mono S1, e, fun μ2 H2 v R2 S2 rv => k μ2 H2 v R2 (S1.trans S2) rv⟩
  | false => exact ⟨μ1, ρ, h1, d, h', R1, N.mono S1, e, fun μ2 H2 v R2 S2 rv => k μ2 H2 v R2 (S1.trans S2) rv⟩
/-! arguments -/
variable {es : List Expr} {mas : AM}
theorem pa_0 : PA X [] (tAm X.K aNil) := pa_nil.imp fun σ H Q ⟨μ, ρ, h, ds, h', R, N, e, k⟩ => by
  cases e
  exact k μ H [] R (Stp.refl ..) .nil
theorem pa_1 (he : PE X e (tEm X.K me)) (hr : PA X es (tAm X.K mas)) (hs : starEach (e :: es) X.env = (false, eval e X.env) :: starEach es X.env) : PA X (e :: es) (tAm X.K (aCons me mas)) := (pa_cons he hr hs).imp fun σ H Q ⟨μ, ρ, h, ds, h', R, N, e, k⟩ => by
  obtain ⟨⟨x, h1⟩, e1, e⟩ := bind_some e
  obtain ⟨⟨ys, h2⟩, e2, e⟩ := bind_some e
  cases e
  exact ⟨μ, ρ, h, x, h1, R, N, e1, fun μ1 H1 vx R1 S1 rx => ⟨μ1, ρ, h1, ys, h2, R1, N.mono S1, e2, fun μ2 H2 vs R2 S2 rs => k μ2 H2 (vx :: vs) R2 (S1.trans S2) (.cons (rx.mono S2) rs)⟩⟩
theorem pe_tup2 {x1} (h : PA X es (tAm X.K mas)) : PE X (.Tuple es x1 pos) (tEm X.K (mTup mas)) := (pe_tup h).imp fun σ H Q ⟨μ, ρ, h, d, h', R, N, e, k⟩ => by
  obtain ⟨⟨ds, h1⟩, e1, e⟩ := bind_some e
  refine ⟨μ, ρ, h, ds, h1, R, N, e1, fun μ1 H1 vs R1 S1 rs => ?_⟩
  split at e
  · rename_i hz
    cases e
    exact ⟨by rw [← rs.length]; exact hz, After.newT (fun μ2 H2 v R2 S2 rv => k μ2 H2 v R2 (S1.trans S2) rv) R1 rs⟩
  · cases e
theorem pe_lst2 (h : PA X es (tAm X.K mas)) : PE X (.List es pos) (tEm X.K (mLst mas)) := (pe_lst h).imp fun σ H Q ⟨μ, ρ, h, d, h', R, N, e, k⟩ => by
  obtain ⟨⟨ds, h1⟩, e1, e⟩ := bind_some e
  refine ⟨μ, ρ, h, ds, h1, R, N, e1, fun μ1 H1 vs R1 S1 rs => ?_⟩
  split at e
  · rename_i hz
    cases e
    exact ⟨by rw [← rs.length]; exact hz, After.newL (fun μ2 H2 v R2 S2 rv => k μ2 H2 v R2 (S1.trans S2) rv) R1 rs⟩
  · cases e
theorem cb_to {g : ON} {σ : Sl} {H : Hp} {Q : VK} (t : tEm X.K (mCallN g mas) σ H Q) : tCB (gN X.K g) (tAm X.K mas) σ H Q := by
  obtain ⟨μ, ρ, h, d, h', R, N, e, k⟩ := t
  obtain ⟨⟨ds, h1⟩, e1, e⟩ := bind_some e
  exact ⟨μ, ρ, h, ds, h1, R, N, e1, fun μ1 H1 vs R1 S1 rs => ⟨μ1, h1, ds, d, h', R1, rs, e, fun μ2 H2 v R2 S2 rv => k μ2 H2 v R2 (S1.trans S2) rv⟩⟩
theorem pe_meth2 {T id : String} {g : OM} {ty : Hs → D → Bool} {o : Expr} {mo : EM} {name : Str} {apos cpos : Pos} (pa : PlainAttrs T) (slot : Slot T name id) (hty : typeOf (.builtin id) = pure (.type "method_descriptor")) (hm : MtR X id (gM X.K g))
    (htv : ∀ μ h H x v, Rel X.K μ h H → RV X.K H μ x v → ty h x = true → tyV X.K T v H)
    (ho : PE X o (tEm X.K mo)) (ha : PA X (e :: es) (tAm X.K mas)) (hbase : attributeBase o name X.env (eval o X.env) = eval o X.env)
    (hfew : ((backTo cpos (starEach (e :: es) X.env)).all (fun x => !x.1) && (backToKw cpos (keywordEach [] X.env)).all (fun x => x.1.isSome)
      && decide ((e :: es).length + ([] : List Keyword).length + (if ([] : List Keyword).isEmpty then 0 else 1) < 30)) = true)
    (hline : (apos.endLine == cpos.line) = true) (hs : starEach (e :: es) X.env = (false, eval e X.env) :: starEach es X.env) (hplain : (backTo cpos (starEach es X.env)).any (·.1) = false) :
    PE X (.Call (.Attribute o name apos) (e :: es) [] cpos) (tEm X.K (mMeth ty g mo mas)) :=
  (pe_bm pa slot hty hm ho ha hbase hfew hline hs hplain).imp fun σ H Q ⟨μ, ρ, h, d, h', R, N, e, k⟩ => by
    obtain ⟨⟨x, h1⟩, e1, e⟩ := bind_some e
    split at e
    · rename_i hx
      obtain ⟨⟨ds, h2⟩, e2, e⟩ := bind_some e
      exact ⟨μ, ρ, h, x, h1, R, N, e1, fun μ1 H1 vx R1 S1 rx => ⟨htv μ1 h1 H1 x vx R1 rx hx, ⟨μ1, ρ, h1, ds, h2, R1, N.mono S1, e2, fun μ2 H2 vs R2 S2 rs => ⟨μ2, h2, x, ds, d, h', R2, rx.mono S2, rs, e, fun μ3 H3 v R3 S3 rv => k μ3 H3 v R3 (S1.trans (S2.trans S3)) rv⟩⟩⟩⟩
    · cases e
theorem pe_meth20 {T id : String} {g : OM} {ty : Hs → D → Bool} {o : Expr} {mo : EM} {name : Str} {apos cpos : Pos} (pa : PlainAttrs T) (slot : Slot T name id) (hty : typeOf (.builtin id) = pure (.type "method_descriptor")) (hm : MtR X id (gM X.K g))
    (htv : ∀ μ h H x v, Rel X.K μ h H → RV X.K H μ x v → ty h x = true → tyV X.K T v H)
    (ho : PE X o (tEm X.K mo)) (hbase : attributeBase o name X.env (eval o X.env) = eval o X.env) (hline : (apos.endLine == cpos.line) = true) :
    PE X (.Call (.Attribute o name apos) [] [] cpos) (tEm X.K (mMeth ty g mo aNil)) :=
  (pe_bm0 pa slot hty hm ho hbase hline).imp fun σ H Q ⟨μ, ρ, h, d, h', R, N, e, k⟩ => by
    obtain ⟨⟨x, h1⟩, e1, e⟩ := bind_some e
    split at e
    · rename_i hx
      obtain ⟨⟨ds, h2⟩, e2, e⟩ := bind_some e
      cases e2
      exact ⟨μ, ρ, h, x, h1, R, N, e1, fun μ1 H1 vx R1 S1 rx => ⟨htv μ1 h1 H1 x vx R1 rx hx, ⟨μ1, h1, x, [], d, h', R1, rx, .nil, e, fun μ3 H3 v R3 S3 rv => k μ3 H3 v R3 (S1.trans S3) rv⟩⟩⟩
    · cases e
theorem isLst_ok {K : PySem.W.Frag} : ∀ μ h H x v, Rel K μ h H → RV K H μ x v → isLst h x = true → tyV K "list" v H := by
  intro μ h H x v R r e
  unfold isLst at e
  split at e
  · rename_i n
    obtain ⟨a, rfl, ha⟩ := r.loc_at
    split at e
    · rename_i xs ho
      obtain ⟨vs, t, _⟩ := itemsAt_ok (xs := xs) R (by unfold itemsAt; rw [ho]) ha
      exact .inl ⟨rfl, vs, t⟩
    · rename_i ns ho
      obtain ⟨vs, t, _⟩ := itemsAt_ok (xs := ns.map D.int) R (by unfold itemsAt; rw [ho]) ha
      exact .inl ⟨rfl, vs, t⟩
    · cases e
  · cases e
theorem po_0 : PO X none (tPm X.K pNo) := po_none.imp fun σ H Q ⟨μ, ρ, h, o, h', R, N, e, k⟩ => by
  cases e
  exact k μ H R (Stp.refl ..)
theorem po_1 (he : PE X e (tEm X.K me)) : PO X (some e) (tPm X.K (pInt me)) := (po_some he).imp fun σ H Q ⟨μ, ρ, h, o, h', R, N, e, k⟩ => by
  obtain ⟨⟨x, h1⟩, e1, e⟩ := bind_some e
  refine ⟨μ, ρ, h, x, h1, R, N, e1, fun μ1 H1 vx R1 S1 rx => ?_⟩
  split at e
  · rename_i i hi
    have hi' : x = .int i := hi
    subst hi'
    cases e
    cases rx
    exact ⟨i, rfl, k μ1 H1 R1 S1⟩
  · cases e
theorem pe_sl2 {lo hi : Option Expr} {ml mu : PM} {p2 : Pos} (ha : PE X a (tEm X.K ma)) (hl : PO X lo (tPm X.K ml)) (hu : PO X hi (tPm X.K mu)) : PE X (.Subscript a (.Slice lo hi none p2) pos) (tEm X.K (mSl ma ml mu)) :=
  (pe_slice sl_ok ha hl hu).imp fun σ H Q ⟨μ, ρ, h, d, h', R, N, e, k⟩ => by
    obtain ⟨⟨x, h1⟩, e1, e⟩ := bind_some e
    obtain ⟨⟨l, h2⟩, e2, e⟩ := bind_some e
    obtain ⟨⟨u, h3⟩, e3, e⟩ := bind_some e
    exact ⟨μ, ρ, h, x, h1, R, N, e1, fun μ1 H1 vx R1 S1 rx => ⟨μ1, ρ, h1, l, h2, R1, N.mono S1, e2, fun μ2 H2 R2 S2 => ⟨μ2, ρ, h2, u, h3, R2, (N.mono S1).mono S2, e3, fun μ3 H3 R3 S3 =>
      ⟨μ3, h3, x, d, h', R3, (rx.mono S2).mono S3, e, fun μ4 H4 v R4 S4 rv => k μ4 H4 v R4 (S1.trans (S2.trans (S3.trans S4))) rv⟩⟩⟩⟩
/-! tests -/
theorem pt_tru (ha : PE X a (tEm X.K ma)) (he : ∀ whole, isTrue a X.env whole = (do let v ← whole; standAt a.pos; holding [v] (truthy v))) : PT X a (tBm X.K (bTru ma)) := (pt_truth ha he).imp fun σ H Q ⟨μ, ρ, h, d, h', R, N, e, k⟩ => by
  obtain ⟨⟨x, h1⟩, e1, e⟩ := bind_some e
  refine ⟨μ, ρ, h, x, h1, R, N, e1, fun μ1 H1 vx R1 S1 rx => ?_⟩
  cases q : truD h1 x with
  | none => rw [show truD (x, h1).2 (x, h1).1 = none from q] at e; cases e
  | some b =>
    rw [show truD (x, h1).2 (x, h1).1 = some b from q] at e
    cases e
    exact ⟨d, truD_ok R1 rx q, k μ1 H1 R1 S1⟩
theorem bBool_to {σ : Sl} {H : Hp} {Q : Bool → Hp → Prop} {t : TE} (i : ∀ Q, tEm X.K ma σ H Q → t σ H Q) (h : tBm X.K (bBool ma) σ H Q) : tTest t σ H Q := by
  obtain ⟨μ, ρ, h, d, h', R, N, e, k⟩ := h
  obtain ⟨⟨x, h1⟩, e1, e⟩ := bind_some e
  refine i _ ⟨μ, ρ, h, x, h1, R, N, e1, fun μ1 H1 vx R1 S1 rx => ?_⟩
  split at e
  · rename_i b hb
    have hb' : x = .bl b := hb
    subst hb'
    cases e
    cases rx
    exact ⟨_, rfl, k μ1 H1 R1 S1⟩
  · cases e
theorem op2_to {g : O2} {σ : Sl} {H : Hp} {Q : VK} (t : tEm X.K (mOp2 g ma mb) σ H Q) : tOp (g2 X.K g) (tEm X.K ma) (tEm X.K mb) σ H Q := by
  obtain ⟨μ, ρ, h, d, h', R, N, e, k⟩ := t
  obtain ⟨⟨x, h1⟩, e1, e⟩ := bind_some e
  obtain ⟨⟨y, h2⟩, e2, e⟩ := bind_some e
  exact ⟨μ, ρ, h, x, h1, R, N, e1, fun μ1 H1 vx R1 S1 rx => ⟨μ1, ρ, h1, y, h2, R1, N.mono S1, e2, fun μ2 H2 vy R2 S2 ry => ⟨μ2, h2, x, y, d, h', R2, rx.mono S2, ry, e, fun μ3 H3 v R3 S3 rv => k μ3 H3 v R3 (S1.trans (S2.trans S3)) rv⟩⟩⟩
theorem pt_cmp2 {op : CmpOp} {g : O2} (ho : OpR X (compareOp op) (g2 X.K g)) (ha : PE X a (tEm X.K ma)) (hb : PE X b (tEm X.K mb)) (hm : behindInMarks op b = false) : PT X (.Compare a [op] [b] pos) (tBm X.K (bBool (mOp2 g ma mb))) :=
  (pt_cmpR ho ha hb hm).imp fun σ H Q t => bBool_to (fun Q q => op2_to q) t
theorem pt_chain2 {op op' : CmpOp} {g g' : O2} (ho : OpR X (compareOp op) (g2 X.K g)) (ho' : OpR X (compareOp op') (g2 X.K g')) (ha : PE X a (tEm X.K ma)) (hb : PE X b (tEm X.K mb)) (hc : PE X c (tEm X.K mc))
    (hm : lastMarks [op, op'] [b, c] = false) : PT X (.Compare a [op, op'] [b, c] pos) (tBm X.K (bBool (mChain g g' ma mb mc))) := (pt_chain ho ho' ha hb hc hm).imp fun σ H Q t => bBool_to (fun Q q => chain_to q) t
theorem pt_no : PT X e (tBm X.K bNo) := ⟨fun pins s σ H Q I ⟨_, _, _, _, _, _, _, z, _⟩ => nomatch z⟩
variable {ta tb : BM}
theorem pt_not2 (ha : PT X a (tBm X.K ta)) : PT X (.UnaryOp .Not a pos) (tBm X.K (bNot ta)) := (pt_not ha).imp fun σ H Q ⟨μ, ρ, h, d, h', R, N, e, k⟩ => by
  unfold bNot at e
  cases q : ta ρ h with
  | none => rw [q] at e; cases e
  | some r =>
    rw [q] at e
    cases e
    exact ⟨μ, ρ, h, r.1, r.2, R, N, q, fun μ1 H1 R1 S1 => k μ1 H1 R1 S1⟩
theorem pw_no {op : BoolOp} {es : List Expr} : PW X (.BoolOp op es pos) (tBm X.K bNo) := ⟨fun w pins s σ H Q I ⟨_, _, _, _, _, _, _, z, _⟩ => nomatch z⟩
theorem pw_and2 {rest : List Expr} (ha : PT X a (tBm X.K ta)) (hb : PW X (.BoolOp .And (b :: rest) pos) (tBm X.K tb)) : PW X (.BoolOp .And (a :: b :: rest) pos) (tBm X.K (bAnd ta tb)) := (pw_and ha hb).imp fun σ H Q ⟨μ, ρ, h, d, h', R, N, e, k⟩ => by
  obtain ⟨⟨x, h1⟩, e1, e⟩ := bind_some e
  refine ⟨μ, ρ, h, x, h1, R, N, e1, fun μ1 H1 R1 S1 => ?_⟩
  cases x with
  | true => exact ⟨μ1, ρ, h1, d, h', R1, N.mono S1, e, fun μ2 H2 R2 S2 => k μ2 H2 R2 (S1.trans S2)⟩
  | false => cases e; exact k μ1 H1 R1 S1
theorem pw_or2 {rest : List Expr} (ha : PT X a (tBm X.K ta)) (hb : PW X (.BoolOp .Or (b :: rest) pos) (tBm X.K tb)) : PW X (.BoolOp .Or (a :: b :: rest) pos) (tBm X.K (bOr ta tb)) := (pw_or ha hb).imp fun σ H Q ⟨μ, ρ, h, d, h', R, N, e, k⟩ => by
  obtain ⟨⟨x, h1⟩, e1, e⟩ := bind_some e
  refine ⟨μ, ρ, h, x, h1, R, N, e1, fun μ1 H1 R1 S1 => ?_⟩
  cases x with
  | true => cases e; exact k μ1 H1 R1 S1
  | false => exact ⟨μ1, ρ, h1, d, h', R1, N.mono S1, e, fun μ2 H2 R2 S2 => k μ2 H2 R2 (S1.trans S2)⟩
theorem pts_0 : PTs X [] (tBm X.K bYes) := pts_nil.imp fun σ H Q ⟨μ, ρ, h, d, h', R, N, e, k⟩ => by
  cases e
  exact k μ H R (Stp.refl ..)
end
end MP

/-! text Mini8 -/
set_option Elab.async false
set_option linter.all false
set_option maxRecDepth 100000
set_option maxHeartbeats 4000000
namespace MP
open PySem PySem.Spec PyProof.Rows
open L2 hiding St

/-! ### targets -/
def gVar (i : Nat) : GM := fun d ρ h => some (ρ.set i (some d), h)
def gNo : GM := fun _ _ _ => none
def gsNil : GsM := fun ds ρ h => match ds with
  | [] => some (ρ, h)
  | _ => none
def gsCons (g : GM) (gs : GsM) : GsM := fun ds ρ h => match ds with
  | d :: r => (g d ρ h).bind fun q => gs r q.1 q.2
  | [] => none
def gTupM (n : Nat) (gs : GsM) : GM := fun d ρ h => match seqAt h d with
  | some xs => if xs.length = n then gs xs ρ h else none
  | none => none
def gSubM (mo mi : EM) : GM := fun d ρ h => (mo ρ h).bind fun r1 => (mi ρ r1.2).bind fun r2 => (setD r1.1 r2.1 d r2.2).map fun h' => (ρ, h')
theorem out_set {i : Nat} {v : Option V} {σ : Sl} : Out [i] σ (σ.set i v) := ⟨List.length_set .., fun j hj => by
  rw [List.getElem?_set_ne]
  intro e
  exact hj (by rw [e]; exact List.mem_singleton.mpr rfl)⟩
section
variable {X : Cx} {pos : Pos} {tg : Expr}
theorem pg_var {i : Nat} (h : PG X tg (gName i)) : PG X tg (tGm X.K [i] (gVar i)) := h.imp fun v σ H Q ⟨μ, ρ, h, d, ρ', h', R, N, r, e, k⟩ => by
  cases e
  exact k μ H _ R (Stp.refl ..) (N.set r i) out_set
theorem pg_no {is : List Nat} : PG X tg (tGm X.K is gNo) := ⟨fun pins s σ H v u Q I r ⟨_, _, _, _, _, _, _, _, _, z, _⟩ => nomatch z⟩
theorem pgs_0 {is : List Nat} : PGs X [] (tGsm X.K is gsNil) := pgs_nil.imp fun vs σ H Q ⟨μ, ρ, h, ds, ρ', h', R, N, r, e, k⟩ => by
  unfold gsNil at e
  split at e
  · cases e
    cases r
    exact ⟨rfl, k μ H _ R (Stp.refl ..) N (Out.refl ..)⟩
  · cases e
theorem pgs_1 {e : Expr} {es : List Expr} {g : GM} {gs : GsM} {is js : List Nat} (h1 : PG X e (tGm X.K is g)) (h2 : PGs X es (tGsm X.K js gs))
    (hs : (assignEach (e :: es) X.env).map (·.2) = assign e X.env :: (assignEach es X.env).map (·.2)) : PGs X (e :: es) (tGsm X.K (is ++ js) (gsCons g gs)) := (pgs_cons h1 h2 hs).imp fun vs σ H Q ⟨μ, ρ, h, ds, ρ', h', R, N, r, e, k⟩ => by
  unfold gsCons at e
  split at e
  · obtain ⟨⟨ρ1, h1⟩, e1, e⟩ := bind_some e
    cases r with
    | cons r1 r2 =>
      exact ⟨_, _, rfl, μ, ρ, h, _, ρ1, h1, R, N, r1, e1, fun μ1 H1 σ1 R1 S1 N1 O1 => ⟨μ1, ρ1, h1, _, ρ', h', R1, N1, r2.mono S1, e, fun μ2 H2 σ2 R2 S2 N2 O2 =>
        k μ2 H2 σ2 R2 (S1.trans S2) N2 ((O1.mono fun i hi => List.mem_append_left _ hi).trans (O2.mono fun i hi => List.mem_append_right _ hi))⟩⟩
  · cases e
theorem _root_.L2.PG.or {t t' : TG} (a : PG X tg t) (b : PG X tg t') : PG X tg (fun v σ H Q => t v σ H Q ∨ t' v σ H Q) := ⟨fun pins s σ H v u Q I r q => q.elim (a.run pins s σ H v u Q I r) (b.run pins s σ H v u Q I r)⟩
theorem pg_tup2 {es : List Expr} {k : Nat} {gs : GsM} {n : Nat} {is : List Nat} (hc : X.calm = true) (h : PGs X es (tGsm X.K is gs)) (hn : (assignEach es X.env).length = n) (hst : (assignEach es X.env).findIdx? (·.1) = none) :
    PG X (.Tuple es k pos) (tGm X.K is (gTupM n gs)) := ((pg_tup hc h hn hst).or (pg_lst hc h hn hst)).imp fun v σ H Q ⟨μ, ρ, h, d, ρ', h', R, N, r, e, k⟩ => by
  unfold gTupM at e
  split at e
  · rename_i xs ex
    split at e
    · rename_i hl
      obtain ⟨a, vs, rfl, t, s⟩ := seqAt_ok R r ex
      have q : tGsm X.K is gs vs σ H Q := ⟨μ, ρ, h, xs, ρ', h', R, N, s, e, k⟩
      have hl' : vs.length = n := by rw [← s.length]; exact hl
      rcases t with t | t
      · exact .inr ⟨a, vs, rfl, t, hl', q⟩
      · exact .inl ⟨a, vs, rfl, t, hl', q⟩
    · cases e
  · cases e
theorem pg_sub2 {o i : Expr} {mo mi : EM} {is : List Nat} (ho : PE X o (tEm X.K mo)) (hi : PE X i (tEm X.K mi))
    (ha : ∀ v, assign (.Subscript o i pos) X.env v = (do
      let ov ← holding [v] (eval o X.env)
      let iv ← holding [v, ov] (eval i X.env)
      standAt pos
      holding [v, ov, iv] (setItem ov iv v)
      release [v, ov, iv] [])) : PG X (.Subscript o i pos) (tGm X.K is (gSubM mo mi)) := (pg_sub ho hi set_ok ha).imp fun v σ H Q ⟨μ, ρ, h, d, ρ', h', R, N, r, e, k⟩ => by
  obtain ⟨⟨x, h1⟩, e1, e⟩ := bind_some e
  obtain ⟨⟨y, h2⟩, e2, e⟩ := bind_some e
  cases q : setD x y d h2 with
  | none => rw [show setD (x, h1).1 (y, h2).1 d (y, h2).2 = none from q] at e; cases e
  | some h3 =>
    rw [show setD (x, h1).1 (y, h2).1 d (y, h2).2 = some h3 from q] at e
    cases e
    exact ⟨μ, ρ, h, x, h1, R, N, e1, fun μ1 H1 vx R1 S1 rx => ⟨μ1, ρ, h1, y, h2, R1, N.mono S1, e2, fun μ2 H2 vy R2 S2 ry => ⟨μ2, h2, x, y, d, _, R2, rx.mono S2, ry, (r.mono S1).mono S2, q, fun μ3 H3 R3 S3 =>
      k μ3 H3 σ R3 (S1.trans (S2.trans S3)) (N.mono (S1.trans (S2.trans S3))) (Out.refl ..)⟩⟩⟩
end

/-! ### statements -/
def sNext : SM := fun ρ h => some (.nx, ρ, h)
def sNo : SM := fun _ _ => none
def sBreak : SM := fun ρ h => some (.bk, ρ, h)
def sCont : SM := fun ρ h => some (.ct, ρ, h)
def sSeq (a b : SM) : SM := fun ρ h => match a ρ h with
  | some (.nx, ρ1, h1) => b ρ1 h1
  | r => r
def sSet (me : EM) (g : GM) : SM := fun ρ h => (me ρ h).bind fun r => (g r.1 ρ r.2).map fun q => (.nx, q.1, q.2)
def sExpr (me : EM) : SM := fun ρ h => (me ρ h).map fun r => (.nx, ρ, r.2)
def sRet (me : EM) : SM := fun ρ h => (me ρ h).map fun r => (.rt r.1, ρ, r.2)
def sRetN : SM := fun ρ h => some (.rt .non, ρ, h)
def sIf (mt : BM) (a b : SM) : SM := fun ρ h => (mt ρ h).bind fun r => if r.1 = true then a ρ r.2 else b ρ r.2
def sAug (i : Nat) (me : EM) (g : O2) : SM := fun ρ h => (mVar i ρ h).bind fun r0 => (me ρ r0.2).bind fun r1 => (g r0.1 r1.1 r1.2).map fun r2 => (.nx, ρ.set i (some r2.1), r2.2)
def whileM (mt : BM) (body : SM) : Nat → SM
  | 0 => fun _ _ => none
  | n + 1 => fun ρ h => (mt ρ h).bind fun r => if r.1 = true then match body ρ r.2 with
      | some (.nx, ρ1, h1) => whileM mt body n ρ1 h1
      | some (.ct, ρ1, h1) => whileM mt body n ρ1 h1
      | some (.bk, ρ1, h1) => some (.nx, ρ1, h1)
      | some (.rt d, ρ1, h1) => some (.rt d, ρ1, h1)
      | none => none
    else some (.nx, ρ, r.2)
/-- more turns than any loop here takes -/
def manyTurns : Nat := 1000000
def sWhile (mt : BM) (body : SM) : SM := whileM mt body manyTurns
/-- the walked list stands as it stood -/
def gOk : Gd → Hs → Prop
  | none, _ => True
  | some (n, xs), h => itemsAt h n = some xs
open Classical in
noncomputable def forM (gd : Gd) (g : GM) (body : SM) : List D → SM
  | [] => fun ρ h => if gOk gd h then some (.nx, ρ, h) else none
  | x :: xs => fun ρ h => if gOk gd h then (g x ρ h).bind fun q => match body q.1 q.2 with
      | some (.nx, ρ1, h1) => forM gd g body xs ρ1 h1
      | some (.ct, ρ1, h1) => forM gd g body xs ρ1 h1
      | some (.bk, ρ1, h1) => some (.nx, ρ1, h1)
      | some (.rt d, ρ1, h1) => some (.rt d, ρ1, h1)
      | none => none
    else none
noncomputable def sFor (mi : IM) (g : GM) (body : SM) : SM := fun ρ h => (mi ρ h).bind fun r => forM r.1.2 g body r.1.1 ρ r.2

/-- J yields the things xs while the guard holds -/
structure Wk (K : PySem.W.Frag) (J : It) (μ0 : List Addr) (H0 : Hp) (xs : List D) (gd : Gd) : Prop where
  go : ∀ μ h H i, Stp K μ0 H0 μ H → Rel K μ h H → gOk gd h → i < xs.length → J.go i H
  stop : ∀ μ h H, Stp K μ0 H0 μ H → Rel K μ h H → gOk gd h → J.stop xs.length H
  yld : ∀ μ h H i v H', Stp K μ0 H0 μ H → Rel K μ h H → gOk gd h → i < xs.length → J.yld i H v H' → ∃ d, xs[i]? = some d ∧ Rel K μ h H' ∧ Stp K μ H μ H' ∧ RV K H' μ d v
def tIm (K : PySem.W.Frag) (m : IM) : TI := fun σ H R => ∃ μ ρ h xs gd h', Rel K μ h H ∧ REnv K H μ ρ σ ∧ m ρ h = some ((xs, gd), h') ∧ ∀ μ' H' J, Rel K μ' h' H' → Stp K μ H μ' H' → Wk K J μ' H' xs gd → R J H'
def iNo : IM := fun _ _ => none

section
variable {X : Cx} {pos : Pos} {st : Stmt} {sts : List Stmt} {ma mb : SM} {e : Expr} {me : EM}
theorem ps_no : PS X st (tSm X.K sNo) := ⟨fun pins s σ H Q I ⟨_, _, _, _, _, _, _, _, z, _⟩ => nomatch z⟩
theorem ps_nx (h : PS X st tNext) : PS X st (tSm X.K sNext) := h.imp fun D σ H ⟨μ, ρ, h, f, ρ', h', R, N, e, k⟩ => by
  cases e
  exact k μ H R (Stp.refl ..) σ N
theorem ps_bk : PS X (.Break pos) (tSm X.K sBreak) := ps_break.imp fun D σ H ⟨μ, ρ, h, f, ρ', h', R, N, e, k⟩ => by
  cases e
  exact k μ H R (Stp.refl ..) σ N
theorem ps_ct : PS X (.Continue pos) (tSm X.K sCont) := ps_continue.imp fun D σ H ⟨μ, ρ, h, f, ρ', h', R, N, e, k⟩ => by
  cases e
  exact k μ H R (Stp.refl ..) σ N
theorem pss_0 : PSs X [] (tSm X.K sNext) := pss_nil.imp fun D σ H ⟨μ, ρ, h, f, ρ', h', R, N, e, k⟩ => by
  cases e
  exact k μ H R (Stp.refl ..) σ N
theorem pss_1 (h1 : PS X st (tSm X.K ma)) (h2 : PSs X sts (tSm X.K mb)) : PSs X (st :: sts) (tSm X.K (sSeq ma mb)) := (pss_cons h1 h2).imp fun D σ H ⟨μ, ρ, h, f, ρ', h', R, N, e, k⟩ => by
  unfold sSeq at e
  cases q : ma ρ h with
  | none => rw [q] at e; cases e
  | some r =>
    obtain ⟨f1, ρ1, h1⟩ := r
    refine ⟨μ, ρ, h, f1, ρ1, h1, R, N, q, fun μ1 H1 R1 S1 => ?_⟩
    rw [q] at e
    cases f1 with
    | nx => exact fun σ1 N1 => ⟨μ1, ρ1, h1, f, ρ', h', R1, N1, e, fun μ2 H2 R2 S2 => k μ2 H2 R2 (S1.trans S2)⟩
    | bk => cases e; exact k μ1 H1 R1 S1
    | ct => cases e; exact k μ1 H1 R1 S1
    | rt d => cases e; exact k μ1 H1 R1 S1
theorem set_to {g : GM} {is : List Nat} {te : TE} (i : ∀ σ H Q, tEm X.K me σ H Q → te σ H Q) {D : Ends} {σ : Sl} {H : Hp} (t : tSm X.K (sSet me g) D σ H) : tAsg te (tGm X.K is g) D σ H := by
  obtain ⟨μ, ρ, h, f, ρ', h', R, N, e, k⟩ := t
  obtain ⟨⟨x, h1⟩, e1, e⟩ := bind_some e
  cases q : g x ρ h1 with
  | none => rw [show g (x, h1).1 ρ (x, h1).2 = none from q] at e; cases e
  | some r =>
    rw [show g (x, h1).1 ρ (x, h1).2 = some r from q] at e
    cases e
    exact i _ _ _ ⟨μ, ρ, h, x, h1, R, N, e1, fun μ1 H1 vx R1 S1 rx => ⟨μ1, ρ, h1, x, r.1, r.2, R1, N.mono S1, rx, q, fun μ2 H2 σ2 R2 S2 N2 O2 => k μ2 H2 R2 (S1.trans S2) σ2 N2⟩⟩
theorem ps_set2 {i : Nat} {x : Str} {pos' : Pos} (hN : X.N.Nodup) (hi : X.N[i]? = some x) (hx : Loc X.env.scope x) (he : PE X e (tEm X.K me)) (hs : swapsWith e (some (.Name x pos')) pos.line X.env = pure false) (hf : X.fn x = true ∨ X.env.scope.names.lookup x = some .local) :
    PS X (.Assign [.Name x pos'] e pos) (tSm X.K (sSet me (gVar i))) := (ps_set hN hi hx he hs hf).imp fun D σ H t => by
  obtain ⟨μ, ρ, h, f, ρ', h', R, N, e, k⟩ := t
  obtain ⟨⟨x, h1⟩, e1, e⟩ := bind_some e
  cases e
  exact ⟨μ, ρ, h, x, h1, R, N, e1, fun μ1 H1 vx R1 S1 rx => k μ1 H1 R1 S1 _ ((N.mono S1).set rx i)⟩
theorem ps_asg' {tg : Expr} {g : GM} {is : List Nat} (he : PE X e (tEm X.K me)) (hg : PG X tg (tGm X.K is g)) (hs : swapsWithSole [tg] e pos.line X.env = pure false) (hw : swappedStores [tg] e X.env = pure none)
    (h1 : (assignEach [tg] X.env).map (·.2) = [assign tg X.env]) : PS X (.Assign [tg] e pos) (tSm X.K (sSet me g)) := (ps_asg he hg hs hw h1).imp fun D σ H t => set_to (fun _ _ _ q => q) t
theorem ps_expr2 (he : PE X e (tEm X.K me)) (hs : swapsWith e none pos.line X.env = pure false) : PS X (.Expr e pos) (tSm X.K (sExpr me)) := (ps_expr he hs).imp fun D σ H ⟨μ, ρ, h, f, ρ', h', R, N, e, k⟩ => by
  unfold sExpr at e
  cases q : me ρ h with
  | none => rw [q] at e; cases e
  | some r =>
    rw [q] at e
    cases e
    exact ⟨μ, ρ, h, r.1, r.2, R, N, q, fun μ1 H1 vx R1 S1 rx => k μ1 H1 R1 S1 σ (N.mono S1)⟩
theorem ps_ret2 (he : PE X e (tEm X.K me)) : PS X (.Return (some e) pos) (tSm X.K (sRet me)) := (ps_ret he).imp fun D σ H ⟨μ, ρ, h, f, ρ', h', R, N, e, k⟩ => by
  unfold sRet at e
  cases q : me ρ h with
  | none => rw [q] at e; cases e
  | some r =>
    rw [q] at e
    cases e
    exact ⟨μ, ρ, h, r.1, r.2, R, N, q, fun μ1 H1 vx R1 S1 rx => k μ1 H1 R1 S1 vx rx⟩
theorem ps_retN2 : PS X (.Return none pos) (tSm X.K sRetN) := ps_retN.imp fun D σ H ⟨μ, ρ, h, f, ρ', h', R, N, e, k⟩ => by
  cases e
  exact k μ H R (Stp.refl ..) .non .non
theorem ps_if2 {c : Expr} {as bs : List Stmt} {mt : BM} (hc : PT X c (tBm X.K mt)) (ha : PSs X as (tSm X.K ma)) (hb : PSs X bs (tSm X.K mb)) : PS X (.If c as bs pos) (tSm X.K (sIf mt ma mb)) := (ps_if hc ha hb).imp fun D σ H ⟨μ, ρ, h, f, ρ', h', R, N, e, k⟩ => by
  obtain ⟨⟨x, h1⟩, e1, e⟩ := bind_some e
  refine ⟨μ, ρ, h, x, h1, R, N, e1, fun μ1 H1 R1 S1 => ?_⟩
  cases x with
  | true => exact ⟨μ1, ρ, h1, f, ρ', h', R1, N.mono S1, e, fun μ2 H2 R2 S2 => k μ2 H2 R2 (S1.trans S2)⟩
  | false => exact ⟨μ1, ρ, h1, f, ρ', h', R1, N.mono S1, e, fun μ2 H2 R2 S2 => k μ2 H2 R2 (S1.trans S2)⟩
theorem ps_aug2 {i : Nat} {x : Str} {op : Operator} {g : O2} {pos' : Pos} (hN : X.N.Nodup) (hi : X.N[i]? = some x) (hx : Loc X.env.scope x) (he : PE X e (tEm X.K me)) (ho : OpR X (inplaceOp op) (g2 X.K g)) (hf : X.fn x = true ∨ X.env.scope.names.lookup x = some .local) :
    PS X (.AugAssign (.Name x pos') op e pos) (tSm X.K (sAug i me g)) := (ps_aug hN hi hx he ho hf).imp fun D σ H ⟨μ, ρ, h, f, ρ', h', R, N, e, k⟩ => by
  obtain ⟨⟨x0, h0⟩, e0, e⟩ := bind_some e
  obtain ⟨⟨y, h1⟩, e1, e⟩ := bind_some e
  unfold mVar at e0
  split at e0
  · rename_i d0 ed
    cases e0
    obtain ⟨v, ev, rv⟩ := N.at_ i _ ed
    cases q : g x0 y h1 with
    | none => rw [show g (x0, h).1 (y, h1).1 (y, h1).2 = none from q] at e; cases e
    | some r =>
      rw [show g (x0, h).1 (y, h1).1 (y, h1).2 = some r from q] at e
      cases e
      exact ⟨v, ev, μ, ρ, h, y, h1, R, N, e1, fun μ1 H1 vy R1 S1 ry => ⟨μ1, h1, x0, y, r.1, r.2, R1, rv.mono S1, ry, q, fun μ2 H2 w R2 S2 rw' => k μ2 H2 R2 (S1.trans S2) _ ((N.mono (S1.trans S2)).set rw' i)⟩⟩
  · cases e0
theorem ps_while2 {c : Expr} {body : List Stmt} {mt : BM} (hp : PassesOwn (model X.prog X.w) X.A X.env X.xe) (hc : PT X c (tBm X.K mt)) (hb : PSs X body (tSm X.K ma)) : PS X (.While c body [] pos) (tSm X.K (sWhile mt ma)) := (ps_while hp hc hb).imp fun D σ H ⟨μ, ρ, h, f, ρ', h', R, N, e, k⟩ => by
  refine ⟨fun m σ1 H1 => ∃ μ1 ρ1 h1, Rel X.K μ1 h1 H1 ∧ REnv X.K H1 μ1 ρ1 σ1 ∧ whileM mt ma m ρ1 h1 = some (f, ρ', h') ∧ Stp X.K μ H μ1 H1, ⟨manyTurns, μ, ρ, h, R, N, e, Stp.refl ..⟩, fun m σ1 H1 ⟨μ1, ρ1, h1, R1, N1, e1, S1⟩ => ?_⟩
  cases m with
  | zero => cases e1
  | succ m =>
    obtain ⟨⟨b, h2⟩, e2, e1⟩ := bind_some e1
    refine ⟨μ1, ρ1, h1, b, h2, R1, N1, e2, fun μ2 H2 R2 S2 => ?_⟩
    cases b with
    | false =>
      cases e1
      exact k μ2 H2 R2 (S1.trans S2) σ1 (N1.mono S2)
    | true =>
      refine ⟨fun σ3 H3 => ∃ μ3 ρ3 h3, Rel X.K μ3 h3 H3 ∧ REnv X.K H3 μ3 ρ3 σ3 ∧ whileM mt ma m ρ3 h3 = some (f, ρ', h') ∧ Stp X.K μ H μ3 H3, fun σ3 H3 q => ⟨m, Nat.lt_succ_self m, q⟩, ?_⟩
      have e1' : (match ma ρ1 h2 with
        | some (.nx, ρ1, h1) => whileM mt ma m ρ1 h1
        | some (.ct, ρ1, h1) => whileM mt ma m ρ1 h1
        | some (.bk, ρ1, h1) => some (.nx, ρ1, h1)
        | some (.rt d, ρ1, h1) => some (.rt d, ρ1, h1)
        | none => none) = some (f, ρ', h') := e1
      cases q : ma ρ1 h2 with
      | none => rw [q] at e1'; cases e1'
      | some r =>
        obtain ⟨f1, ρ3, h3⟩ := r
        rw [q] at e1'
        refine ⟨μ2, ρ1, h2, f1, ρ3, h3, R2, N1.mono S2, q, fun μ3 H3 R3 S3 => ?_⟩
        cases f1 with
        | nx => exact fun σ3 N3 => ⟨μ3, ρ3, h3, R3, N3, e1', S1.trans (S2.trans S3)⟩
        | ct => exact fun σ3 N3 => ⟨μ3, ρ3, h3, R3, N3, e1', S1.trans (S2.trans S3)⟩
        | bk => cases e1'; exact fun σ3 N3 => k μ3 H3 R3 (S1.trans (S2.trans S3)) σ3 N3
        | rt d => cases e1'; exact fun v rv => k μ3 H3 R3 (S1.trans (S2.trans S3)) v rv
theorem ps_for2 {tg iter : Expr} {body : List Stmt} {mi : IM} {g : GM} {is : List Nat} (hp : PassesOwn (model X.prog X.w) X.A X.env X.xe) (hc : X.calm = true) (hi : PI X tg iter (tIm X.K mi)) (hg : PG X tg (tGm X.K is g)) (hb : PSs X body (tSm X.K ma))
    (hs : ∀ x, foldedSetIterable iter X.env x = pure x) : PS X (.For tg iter body [] pos) (tSm X.K (sFor mi g ma)) := (ps_for hp hc hi hg hb hs).imp fun D σ H ⟨μ, ρ, h, f, ρ', h', R, N, e, k⟩ => by
  obtain ⟨⟨⟨xs, gd⟩, h0⟩, e0, e⟩ := bind_some e
  refine ⟨μ, ρ, h, xs, gd, h0, R, N, e0, fun μ0 H0 J R0 S0 W => ?_⟩
  refine ⟨fun i m σ1 H1 => ∃ μ1 ρ1 h1, i + m = xs.length ∧ Rel X.K μ1 h1 H1 ∧ REnv X.K H1 μ1 ρ1 σ1 ∧ forM gd g ma (xs.drop i) ρ1 h1 = some (f, ρ', h') ∧ Stp X.K μ0 H0 μ1 H1, ⟨xs.length, μ0, ρ, h0, Nat.zero_add _, R0, N.mono S0, e, Stp.refl ..⟩, fun i m σ1 H1 ⟨μ1, ρ1, h1, em, R1, N1, e1, S1⟩ => ?_⟩
  by_cases hi : i < xs.length
  · right
    have ed : xs.drop i = xs[i] :: xs.drop (i + 1) := List.drop_eq_getElem_cons hi
    rw [ed] at e1
    unfold forM at e1
    by_cases hgd : gOk gd h1
    · rw [if_pos hgd] at e1
      obtain ⟨⟨ρ2, h2⟩, e2, e1⟩ := bind_some e1
      refine ⟨W.go μ1 h1 H1 i S1 R1 hgd hi, fun σ3 H3 => ∃ μ3 ρ3 h3, Rel X.K μ3 h3 H3 ∧ REnv X.K H3 μ3 ρ3 σ3 ∧ forM gd g ma (xs.drop (i + 1)) ρ3 h3 = some (f, ρ', h') ∧ Stp X.K μ0 H0 μ3 H3,
        fun σ3 H3 ⟨μ3, ρ3, h3, q1, q2, q3, q4⟩ => ⟨m - 1, by omega, μ3, ρ3, h3, by omega, q1, q2, q3, q4⟩, fun x H2 hy => ?_⟩
      obtain ⟨d, hd, R2, S2, rd⟩ := W.yld μ1 h1 H1 i x H2 S1 R1 hgd hi hy
      have hd' : xs[i] = d := by
        rw [List.getElem?_eq_getElem hi] at hd
        exact Option.some.inj hd
      rw [hd'] at e2
      refine ⟨μ1, ρ1, h1, d, ρ2, h2, R2, N1.mono S2, rd, e2, fun μ3 H3 σ3 R3 S3 N3 O3 => ?_⟩
      have e1' : (match ma ρ2 h2 with
        | some (.nx, ρ1, h1) => forM gd g ma (xs.drop (i + 1)) ρ1 h1
        | some (.ct, ρ1, h1) => forM gd g ma (xs.drop (i + 1)) ρ1 h1
        | some (.bk, ρ1, h1) => some (.nx, ρ1, h1)
        | some (.rt d, ρ1, h1) => some (.rt d, ρ1, h1)
        | none => none) = some (f, ρ', h') := e1
      cases q : ma ρ2 h2 with
      | none => rw [q] at e1'; cases e1'
      | some r =>
        obtain ⟨f1, ρ4, h4⟩ := r
        rw [q] at e1'
        refine ⟨μ3, ρ2, h2, f1, ρ4, h4, R3, N3, q, fun μ4 H4 R4 S4 => ?_⟩
        have SS := S1.trans (S2.trans (S3.trans S4))
        cases f1 with
        | nx => exact fun σ4 N4 => ⟨μ4, ρ4, h4, R4, N4, e1', SS⟩
        | ct => exact fun σ4 N4 => ⟨μ4, ρ4, h4, R4, N4, e1', SS⟩
        | bk => cases e1'; exact fun σ4 N4 => k μ4 H4 R4 (S0.trans SS) σ4 N4
        | rt d => cases e1'; exact fun v rv => k μ4 H4 R4 (S0.trans SS) v rv
    · rw [if_neg hgd] at e1; cases e1
  · left
    have ei : i = xs.length := by omega
    have ed : xs.drop i = [] := List.drop_of_length_le (by omega)
    rw [ed] at e1
    unfold forM at e1
    by_cases hgd : gOk gd h1
    · rw [if_pos hgd] at e1
      cases e1
      rw [ei]
      exact ⟨W.stop μ1 _ H1 S1 R1 hgd, k μ1 H1 R1 (S0.trans S1) σ1 N1⟩
    · rw [if_neg hgd] at e1; cases e1
end

/-! ### what is walked -/
def iSeq (me : EM) : IM := fun ρ h => (me ρ h).bind fun r => match r.1 with
  | .tup xs => some ((xs, none), r.2)
  | .loc n => (itemsAt r.2 n).map fun xs => ((xs, some (n, xs)), r.2)
  | .str x => some ((x.cps.toList.map fun c => .str ⟨#[c]⟩, none), r.2)
  | _ => none
def rangeD (lo c : Int) (n : Nat) : List D := (List.range n).map fun (i : Nat) => .int (lo + (i : Nat) * c)
def iRange1 (me : EM) : IM := fun ρ h => (me ρ h).bind fun r => match r.1 with
  | .int j => if -(2 ^ 62) ≤ j ∧ j < 2 ^ 62 then some ((rangeD 0 1 j.toNat, none), r.2) else none
  | _ => none
def iRange2 (ma mb : EM) : IM := fun ρ h => (ma ρ h).bind fun r => (mb ρ r.2).bind fun r2 => match r.1, r2.1 with
  | .int i, .int j => if -(2 ^ 62) ≤ i ∧ i < 2 ^ 62 ∧ -(2 ^ 62) ≤ j ∧ j < 2 ^ 62 then some ((rangeD i 1 (j - i).toNat, none), r2.2) else none
  | _, _ => none
/-- range(i, j, -1) -/
def iRange3 (ma mb mc : EM) : IM := fun ρ h => (ma ρ h).bind fun r => (mb ρ r.2).bind fun r2 => (mc ρ r2.2).bind fun r3 => match r.1, r2.1, r3.1 with
  | .int i, .int j, .int c => if c = -1 ∧ -(2 ^ 62) ≤ i ∧ i < 2 ^ 62 ∧ -(2 ^ 62) ≤ j ∧ j < 2 ^ 62 then some ((rangeD i (-1) (i - j).toNat, none), r3.2) else none
  | _, _, _ => none
def enumD (xs : List D) : List D := (List.range xs.length).zipWith (fun (i : Nat) x => .tup [.int (i : Nat), x]) xs
def iEnum (me : EM) : IM := fun ρ h => (me ρ h).bind fun r => match r.1 with
  | .tup xs => some ((enumD xs, none), r.2)
  | .loc n => (itemsAt r.2 n).map fun xs => ((enumD xs, some (n, xs)), r.2)
  | _ => none
/-- the guard looks at the items alone; enumerate's guard is on the list's own items -/
def gdOf : Gd → Option (Nat × List D) := id
section
variable {K : PySem.W.Frag}
theorem enumD_len (xs : List D) : (enumD xs).length = xs.length := by unfold enumD; simp
theorem enumD_get {xs : List D} {i : Nat} {x : D} (h : xs[i]? = some x) : (enumD xs)[i]? = some (.tup [.int (i : Nat), x]) := by
  have hl : i < xs.length := (List.getElem?_eq_some_iff.mp h).1
  unfold enumD
  rw [List.getElem?_zipWith, List.getElem?_range hl, h]
theorem rangeD_len (lo c : Int) (n : Nat) : (rangeD lo c n).length = n := by unfold rangeD; simp
theorem rangeD_get {lo c : Int} {n i : Nat} (h : i < n) : (rangeD lo c n)[i]? = some (.int (lo + (i : Nat) * c)) := by
  unfold rangeD
  rw [List.getElem?_map, List.getElem?_range h]
  rfl
theorem wk_tup {μ : List Addr} {H : Hp} {a : Addr} {vs : List V} {xs : List D} (t : TupAt K H a vs) (r : RVs K H μ xs vs) : Wk K (Itt K a) μ H xs none where
  go := fun μ' h H' i S _ _ hi => by
    obtain ⟨v, hv, _⟩ := r.get (List.getElem?_eq_getElem hi)
    exact ⟨vs, v, (S.kp _ _ t).sq, hv⟩
  stop := fun μ' h H' S _ _ => ⟨vs, (S.kp _ _ t).sq, by rw [r.length]; exact Nat.le_refl _⟩
  yld := fun μ' h H' i v H'' S R _ hi hy => by
    obtain ⟨e, ev⟩ := hy
    subst e
    obtain ⟨d, hd, rd⟩ := r.gets (ev vs (S.kp _ _ t).sq)
    exact ⟨d, hd, R, Stp.refl .., rd.mono S⟩
theorem wk_list {μ : List Addr} {H : Hp} {n : Nat} {a : Addr} {xs : List D} (ha : μ[n]? = some a) : Wk K (Itl K a) μ H xs (some (n, xs)) where
  go := fun μ' h H' i S R hg hi => by
    obtain ⟨vs, t, r⟩ := itemsAt_ok R hg (S.ext _ _ ha)
    obtain ⟨v, hv, _⟩ := r.get (List.getElem?_eq_getElem hi)
    exact ⟨vs, v, t, hv⟩
  stop := fun μ' h H' S R hg => by
    obtain ⟨vs, t, r⟩ := itemsAt_ok R hg (S.ext _ _ ha)
    exact ⟨vs, t, by rw [r.length]; exact Nat.le_refl _⟩
  yld := fun μ' h H' i v H'' S R hg hi hy => by
    obtain ⟨vs, t, r⟩ := itemsAt_ok R hg (S.ext _ _ ha)
    obtain ⟨e, ev⟩ := hy
    subst e
    obtain ⟨d, hd, rd⟩ := r.gets (ev vs t)
    exact ⟨d, hd, R, Stp.refl .., rd⟩
theorem wk_enumT {μ : List Addr} {H : Hp} {a : Addr} {vs : List V} {xs : List D} (t : TupAt K H a vs) (r : RVs K H μ xs vs) : Wk K (IteT K a) μ H (enumD xs) none where
  go := fun μ' h H' i S _ _ hi => by
    rw [enumD_len] at hi
    obtain ⟨v, hv, _⟩ := r.get (List.getElem?_eq_getElem hi)
    exact ⟨vs, v, (S.kp _ _ t).sq, hv⟩
  stop := fun μ' h H' S _ _ => ⟨vs, (S.kp _ _ t).sq, by rw [enumD_len, r.length]⟩
  yld := fun μ' h H' i v H'' S R _ hi hy => by
    obtain ⟨T, x, e, nT, eH, ev⟩ := hy
    subst e; subst eH
    obtain ⟨d, hd, rd⟩ := r.gets (ev vs (S.kp _ _ t).sq)
    obtain ⟨R', S'⟩ := R.allocT (u' := .tup [.int (i : Nat), x]) nT
    exact ⟨_, enumD_get hd, R', S', .tup (TupAt.of upd_same) (.cons (.int _) (.cons ((rd.mono S).mono S') .nil))⟩
theorem wk_enum {μ : List Addr} {H : Hp} {n : Nat} {a : Addr} {xs : List D} (ha : μ[n]? = some a) : Wk K (Ite K a) μ H (enumD xs) (some (n, xs)) where
  go := fun μ' h H' i S R hg hi => by
    rw [enumD_len] at hi
    obtain ⟨vs, t, r⟩ := itemsAt_ok R hg (S.ext _ _ ha)
    obtain ⟨v, hv, _⟩ := r.get (List.getElem?_eq_getElem hi)
    exact ⟨vs, v, t, hv⟩
  stop := fun μ' h H' S R hg => by
    obtain ⟨vs, t, r⟩ := itemsAt_ok R hg (S.ext _ _ ha)
    exact ⟨vs, t, by rw [enumD_len, r.length]; exact Nat.le_refl _⟩
  yld := fun μ' h H' i v H'' S R hg hi hy => by
    obtain ⟨vs, t, r⟩ := itemsAt_ok R hg (S.ext _ _ ha)
    obtain ⟨T, x, e, nT, eH, ev⟩ := hy
    subst e; subst eH
    obtain ⟨d, hd, rd⟩ := r.gets (ev vs t)
    obtain ⟨R', S'⟩ := R.allocT (u' := .tup [.int (i : Nat), x]) nT
    exact ⟨_, enumD_get hd, R', S', .tup (TupAt.of upd_same) (.cons (.int _) (.cons (rd.mono S') .nil))⟩
theorem wk_range (μ : List Addr) (H : Hp) (lo : Int) (n : Nat) : Wk K (Itr lo n) μ H (rangeD lo 1 n) none where
  go := fun _ _ _ i _ _ _ hi => by rw [rangeD_len] at hi; exact hi
  stop := fun _ _ _ _ _ _ => by rw [rangeD_len]; exact Nat.le_refl n
  yld := fun μ' h H' i v H'' S R _ hi hy => by
    rw [rangeD_len] at hi
    obtain ⟨e, ev⟩ := hy
    subst e; subst ev
    exact ⟨_, rangeD_get hi, R, Stp.refl .., by rw [Int.mul_one]; exact .int _⟩
theorem wk_rangeC (μ : List Addr) (H : Hp) (lo c : Int) (n : Nat) : Wk K (Itc lo c n) μ H (rangeD lo c n) none where
  go := fun _ _ _ i _ _ _ hi => by rw [rangeD_len] at hi; exact hi
  stop := fun _ _ _ _ _ _ => by rw [rangeD_len]; exact Nat.le_refl n
  yld := fun μ' h H' i v H'' S R _ hi hy => by
    rw [rangeD_len] at hi
    obtain ⟨e, ev⟩ := hy
    subst e; subst ev
    exact ⟨_, rangeD_get hi, R, Stp.refl .., .int _⟩
theorem wk_str (μ : List Addr) (H : Hp) (x : Str) : Wk K (Its x) μ H (x.cps.toList.map fun c => .str ⟨#[c]⟩) none where
  go := fun _ _ _ i _ _ _ hi => by
    show i < x.cps.size
    simpa using hi
  stop := fun _ _ _ _ _ _ => by
    show x.cps.size ≤ _
    simp
  yld := fun μ' h H' i v H'' S R _ hi hy => by
    obtain ⟨e, c, hc, ev⟩ := hy
    subst e; subst ev
    refine ⟨_, ?_, R, Stp.refl .., .str _⟩
    rw [List.getElem?_map, Array.getElem?_toList, hc]
    rfl
end
section
variable {X : Cx} {tg e a b c : Expr} {me ma mb mc : EM}
theorem pi_no : PI X tg e (tIm X.K iNo) := ⟨fun pins s σ H Q I ⟨_, _, _, _, _, _, _, _, z, _⟩ => nomatch z⟩
theorem _root_.L2.PI.or {t t' : TI} (p : PI X tg e t) (q : PI X tg e t') : PI X tg e (fun σ H R => t σ H R ∨ t' σ H R) := ⟨fun pins s σ H R I h => h.elim (p.run pins s σ H R I) (q.run pins s σ H R I)⟩
theorem pi_seq (he : PE X e (tEm X.K me)) : PI X tg e (tIm X.K (iSeq me)) := (((pi_tup he).or (pi_list he)).or (pi_str he)).imp fun σ H R ⟨μ, ρ, h, xs, gd, h', Rl, N, e, k⟩ => by
  obtain ⟨⟨x, h1⟩, e1, e⟩ := bind_some e
  cases x with
  | tup ys =>
    cases e
    refine .inl (.inl ⟨μ, ρ, h, _, _, Rl, N, e1, fun μ1 H1 v R1 S1 rv => ?_⟩)
    cases rv with
    | tup t r => exact ⟨_, rfl, ⟨_, t.sq⟩, k μ1 H1 _ R1 S1 (wk_tup t r)⟩
  | loc n =>
    have e' : (itemsAt h1 n).map (fun xs => ((xs, some (n, xs)), h1)) = some ((xs, gd), h') := e
    cases q : itemsAt h1 n with
    | none => rw [q] at e'; cases e'
    | some ys =>
      rw [q] at e'
      cases e'
      refine .inl (.inr ⟨μ, ρ, h, _, _, Rl, N, e1, fun μ1 H1 v R1 S1 rv => ?_⟩)
      obtain ⟨p, rfl, hp⟩ := rv.loc_at
      obtain ⟨vs, t, _⟩ := itemsAt_ok R1 q hp
      exact ⟨p, rfl, ⟨vs, t⟩, k μ1 H1 _ R1 S1 (wk_list hp)⟩
  | str x =>
    cases e
    refine .inr ⟨μ, ρ, h, _, _, Rl, N, e1, fun μ1 H1 v R1 S1 rv => ?_⟩
    cases rv
    exact ⟨x, rfl, k μ1 H1 _ R1 S1 (wk_str μ1 H1 x)⟩
  | _ => cases e
variable {p pos : Pos}
theorem aOne {me : EM} {μ : List Addr} {σ : Sl} {H : Hp} {Q : List V → Hp → Prop} {ρ : Rho} {h : Hs} {d : D} {h1 : Hs} (Rl : Rel X.K μ h H) (N : REnv X.K H μ ρ σ) (e1 : me ρ h = some (d, h1))
    (k : ∀ μ1 H1 v, Rel X.K μ1 h1 H1 → Stp X.K μ H μ1 H1 → RV X.K H1 μ1 d v → Q [v] H1) : tAm X.K (aCons me aNil) σ H Q :=
  ⟨μ, ρ, h, [d], h1, Rl, N, by show (me ρ h).bind _ = _; rw [e1]; rfl, fun μ1 H1 vs R1 S1 rs => by
    cases rs with
    | cons r1 r2 => cases r2; exact k μ1 H1 _ R1 S1 r1⟩
theorem pi_range1' (hg : Gl X "range") (hm : X.mg "range" = none) (ha : PA X [a] (tAm X.K (aCons ma aNil))) (hs : starEach [a] X.env = [(false, eval a X.env)]) : PI X tg (.Call (.Name "range" p) [a] [] pos) (tIm X.K (iRange1 ma)) :=
  (pi_range1 hg hm ha hs).imp fun σ H R ⟨μ, ρ, h, xs, gd, h', Rl, N, e, k⟩ => by
    obtain ⟨⟨x, h1⟩, e1, e⟩ := bind_some e
    cases x with
    | int j =>
      have e' : (if -(2 ^ 62) ≤ j ∧ j < 2 ^ 62 then some ((rangeD 0 1 j.toNat, none), h1) else none) = some ((xs, gd), h') := e
      split at e'
      · rename_i hj
        cases e'
        refine aOne Rl N e1 fun μ1 H1 v R1 S1 rv => ?_
        cases rv
        exact ⟨j, rfl, hj.1, hj.2, k μ1 H1 _ R1 S1 (wk_range μ1 H1 0 _)⟩
      · cases e'
    | _ => cases e
theorem pi_range2' (hg : Gl X "range") (hm : X.mg "range" = none) (ha : PA X [a, b] (tAm X.K (aCons ma (aCons mb aNil)))) (hs : starEach [a, b] X.env = [(false, eval a X.env), (false, eval b X.env)]) (hs2 : starEach [b] X.env = [(false, eval b X.env)]) :
    PI X tg (.Call (.Name "range" p) [a, b] [] pos) (tIm X.K (iRange2 ma mb)) :=
  (pi_range2 hg hm ha hs hs2).imp fun σ H R ⟨μ, ρ, h, xs, gd, h', Rl, N, e, k⟩ => by
    obtain ⟨⟨x, h1⟩, e1, e⟩ := bind_some e
    obtain ⟨⟨y, h2⟩, e2, e⟩ := bind_some e
    cases x with
    | int i =>
      cases y with
      | int j =>
        have e' : (if -(2 ^ 62) ≤ i ∧ i < 2 ^ 62 ∧ -(2 ^ 62) ≤ j ∧ j < 2 ^ 62 then some ((rangeD i 1 (j - i).toNat, none), h2) else none) = some ((xs, gd), h') := e
        split at e'
        · rename_i hj
          cases e'
          refine ⟨μ, ρ, h, [.int i, .int j], _, Rl, N, by show (ma ρ h).bind _ = _; rw [e1]; show ((mb ρ h1).bind _).bind _ = _; rw [show mb ρ h1 = _ from e2]; rfl, fun μ1 H1 vs R1 S1 rs => ?_⟩
          cases rs with
          | cons r1 r2 =>
            cases r2 with
            | cons r2 r3 =>
              cases r3; cases r1; cases r2
              exact ⟨i, j, rfl, hj, k μ1 H1 _ R1 S1 (wk_range μ1 H1 i _)⟩
        · cases e'
      | _ => cases e
    | _ => cases e
theorem pi_range3' (hg : Gl X "range") (hm : X.mg "range" = none) (ha : PA X [a, b, c] (tAm X.K (aCons ma (aCons mb (aCons mc aNil))))) (hs : starEach [a, b, c] X.env = (false, eval a X.env) :: starEach [b, c] X.env) (hpl : (backTo pos (starEach [b, c] X.env)).any (·.1) = false) :
    PI X tg (.Call (.Name "range" p) [a, b, c] [] pos) (tIm X.K (iRange3 ma mb mc)) :=
  (pi_range3 hg hm ha hs hpl).imp fun σ H R ⟨μ, ρ, h, xs, gd, h', Rl, N, e, k⟩ => by
    obtain ⟨⟨x, h1⟩, e1, e⟩ := bind_some e
    obtain ⟨⟨y, h2⟩, e2, e⟩ := bind_some e
    obtain ⟨⟨z, h3⟩, e3, e⟩ := bind_some e
    cases x with
    | int i =>
      cases y with
      | int j =>
        cases z with
        | int cc =>
          have e' : (if cc = -1 ∧ -(2 ^ 62) ≤ i ∧ i < 2 ^ 62 ∧ -(2 ^ 62) ≤ j ∧ j < 2 ^ 62 then some ((rangeD i (-1) (i - j).toNat, none), h3) else none) = some ((xs, gd), h') := e
          split at e'
          · rename_i hj
            cases e'
            refine ⟨μ, ρ, h, [.int i, .int j, .int cc], _, Rl, N, by show (ma ρ h).bind _ = _; rw [e1]; show ((mb ρ h1).bind _).bind _ = _; rw [show mb ρ h1 = _ from e2]; show (((mc ρ h2).bind _).bind _).bind _ = _; rw [show mc ρ h2 = _ from e3]; rfl, fun μ1 H1 vs R1 S1 rs => ?_⟩
            cases rs with
            | cons r1 r2 =>
              cases r2 with
              | cons r2 r3 =>
                cases r3 with
                | cons r3 r4 =>
                  cases r4; cases r1; cases r2; cases r3
                  obtain ⟨hc, h1, h2, h3, h4⟩ := hj
                  subst hc
                  exact ⟨i, j, -1, _, rfl, RgC.neg h1 h2 h3 h4, k μ1 H1 _ R1 S1 (wk_rangeC μ1 H1 i (-1) _)⟩
          · cases e'
        | _ => cases e
      | _ => cases e
    | _ => cases e
theorem pi_enum2 {elts : List Expr} {kk : Nat} {tpos : Pos} (hg : Gl X "enumerate") (hm : X.mg "enumerate" = none) (ha : PA X [e] (tAm X.K (aCons me aNil))) (hs : starEach [e] X.env = [(false, eval e X.env)]) :
    PI X (.Tuple elts kk tpos) (.Call (.Name "enumerate" p) [e] [] pos) (tIm X.K (iEnum me)) := ((pi_enumT hg hm ha hs).or (pi_enum hg hm ha hs)).imp fun σ H R ⟨μ, ρ, h, xs, gd, h', Rl, N, e, k⟩ => by
  obtain ⟨⟨x, h1⟩, e1, e⟩ := bind_some e
  cases x with
  | tup ys =>
    cases e
    refine .inl (aOne Rl N e1 fun μ1 H1 v R1 S1 rv => ?_)
    cases rv with
    | tup t r => exact ⟨_, _, rfl, t.sq, k μ1 H1 _ R1 S1 (wk_enumT t r)⟩
  | loc n =>
    have e' : (itemsAt h1 n).map (fun xs => ((enumD xs, some (n, xs)), h1)) = some ((xs, gd), h') := e
    cases q : itemsAt h1 n with
    | none => rw [q] at e'; cases e'
    | some ys =>
      rw [q] at e'
      cases e'
      refine .inr (aOne Rl N e1 fun μ1 H1 v R1 S1 rv => ?_)
      obtain ⟨p, rfl, hp⟩ := rv.loc_at
      obtain ⟨vs, t, _⟩ := itemsAt_ok R1 q hp
      exact ⟨p, vs, rfl, t, k μ1 H1 _ R1 S1 (wk_enum hp)⟩
  | _ => cases e
end
end MP

/-! text Mini9 -/
set_option Elab.async false
set_option linter.all false
set_option maxRecDepth 100000
set_option maxHeartbeats 4000000
namespace MP
open PySem PySem.Spec PyProof.Rows
open L2 hiding St

/-! ### [elt for tg in iter if ..] -/
open Classical in
noncomputable def lcLoop (gd : Gd) (g : GM) (mt : BM) (me : EM) (ρ0 : Rho) (n0 : Nat) : List D → Hs → Option Hs
  | [], h => if gOk gd h then some h else none
  | x :: xs, h => if gOk gd h then (g x ρ0 h).bind fun q1 => (mt q1.1 q1.2).bind fun q2 => if q2.1 = true then (me q1.1 q2.2).bind fun q3 => match q3.2[n0]? with
      | some (.lst acc) => if acc.length < sizeLine then lcLoop gd g mt me ρ0 n0 xs (q3.2.set n0 (.lst (acc ++ [q3.1]))) else none
      | _ => none
    else lcLoop gd g mt me ρ0 n0 xs q2.2 else none
noncomputable def mLc (mi : IM) (g : GM) (mt : BM) (me : EM) (vs : List Nat) : EM := fun ρ h => (mi ρ h).bind fun r => (lcLoop r.1.2 g mt me (wipeR ρ vs) r.2.length r.1.1 (r.2 ++ [.lst []])).map fun h' => (.loc r.2.length, h')
theorem lcLoop_next {gd : Gd} {g : GM} {mt : BM} {me : EM} {ρ0 : Rho} {n0 : Nat} {x : D} {xs : List D} {h hf : Hs} (e : lcLoop gd g mt me ρ0 n0 (x :: xs) h = some hf) :
    gOk gd h ∧ ∃ ρ1 h1 b h2, g x ρ0 h = some (ρ1, h1) ∧ mt ρ1 h1 = some (b, h2) ∧
      ((b = true ∧ ∃ y h3 acc, me ρ1 h2 = some (y, h3) ∧ h3[n0]? = some (.lst acc) ∧ acc.length < sizeLine ∧ lcLoop gd g mt me ρ0 n0 xs (h3.set n0 (.lst (acc ++ [y]))) = some hf) ∨ (b = false ∧ lcLoop gd g mt me ρ0 n0 xs h2 = some hf)) := by
  unfold lcLoop at e
  by_cases hg : gOk gd h
  · rw [if_pos hg] at e
    obtain ⟨⟨ρ1, h1⟩, e1, e⟩ := bind_some e
    obtain ⟨⟨b, h2⟩, e2, e⟩ := bind_some e
    refine ⟨hg, ρ1, h1, b, h2, e1, e2, ?_⟩
    cases b with
    | true =>
      left
      obtain ⟨⟨y, h3⟩, e3, e⟩ := bind_some e
      split at e
      · rename_i acc ea
        split at e
        · rename_i hz
          exact ⟨rfl, y, h3, acc, e3, ea, hz, e⟩
        · cases e
      · cases e
    | false => exact .inr ⟨rfl, e⟩
  · rw [if_neg hg] at e; cases e
theorem lcLoop_end {gd : Gd} {g : GM} {mt : BM} {me : EM} {ρ0 : Rho} {n0 : Nat} {h hf : Hs} (e : lcLoop gd g mt me ρ0 n0 [] h = some hf) : gOk gd h ∧ h = hf := by
  unfold lcLoop at e
  by_cases hg : gOk gd h
  · rw [if_pos hg] at e
    exact ⟨hg, Option.some.inj e⟩
  · rw [if_neg hg] at e; cases e
theorem lc_to {K : PySem.W.Frag} {mi : IM} {g : GM} {mt : BM} {me : EM} {vs is : List Nat} (hsub : ∀ i ∈ is, i ∈ vs) {σ : Sl} {H : Hp} {Q : VK} (t : tEm K (mLc mi g mt me vs) σ H Q) : tLc (tIm K mi) (tGm K is g) (tBm K mt) (tEm K me) vs σ H Q := by
  obtain ⟨μ, ρ, h, d, hf, R, N, e, k⟩ := t
  obtain ⟨⟨⟨xs, gd⟩, h0⟩, e0, e⟩ := bind_some e
  refine ⟨μ, ρ, h, xs, gd, h0, R, N, e0, fun μ0 H0 J R0 S0 W => ?_⟩
  intro Dp hD
  cases eL : lcLoop gd g mt me (wipeR ρ vs) h0.length xs (h0 ++ [.lst []]) with
  | none => rw [show lcLoop _ g mt me (wipeR ρ vs) _ _ _ = none from eL] at e; cases e
  | some hf' =>
    rw [show lcLoop _ g mt me (wipeR ρ vs) _ _ _ = some hf' from eL] at e
    cases e
    obtain ⟨R00, S00⟩ := R0.alloc (u' := .lst []) (o' := .lst []) hD ⟨[], upd_same, .nil⟩
    have hat : (μ0 ++ [Dp])[h0.length]? = some Dp := by
      rw [List.getElem?_append_right (by rw [R0.len]; exact Nat.le_refl _), R0.len, Nat.sub_self]
      rfl
    have Nw : REnv K H0 μ0 (wipeR ρ vs) (L2.wipe σ vs) := (N.wipe vs).mono S0
    refine ⟨fun i m H1 => ∃ μ1 h1, i + m = xs.length ∧ Rel K μ1 h1 H1 ∧ Stp K μ0 H0 μ1 H1 ∧ μ1[h0.length]? = some Dp ∧ lcLoop gd g mt me (wipeR ρ vs) h0.length (xs.drop i) h1 = some hf,
      ⟨xs.length, μ0 ++ [Dp], h0 ++ [.lst []], Nat.zero_add _, R00, S00, hat, by rw [List.drop_zero]; exact eL⟩, fun i m H1 ⟨μ1, h1, em, R1, S1, ha, e1⟩ => ?_⟩
    by_cases hi : i < xs.length
    · right
      have ed : xs.drop i = xs[i] :: xs.drop (i + 1) := List.drop_eq_getElem_cons hi
      rw [ed] at e1
      obtain ⟨hgd, ρ1, h2, b, h3, e2, e3, e4⟩ := lcLoop_next e1
      refine ⟨W.go μ1 h1 H1 i S1 R1 hgd hi, fun H3 => ∃ μ3 h3, Rel K μ3 h3 H3 ∧ Stp K μ0 H0 μ3 H3 ∧ μ3[h0.length]? = some Dp ∧ lcLoop gd g mt me (wipeR ρ vs) h0.length (xs.drop (i + 1)) h3 = some hf,
        fun H3 ⟨μ3, h3, q1, q2, q3, q4⟩ => ⟨m - 1, by omega, μ3, h3, by omega, q1, q2, q3, q4⟩, fun x H2 hy => ?_⟩
      obtain ⟨d, hd, R2, S2, rd⟩ := W.yld μ1 h1 H1 i x H2 S1 R1 hgd hi hy
      have hd' : xs[i] = d := by
        rw [List.getElem?_eq_getElem hi] at hd
        exact Option.some.inj hd
      rw [hd'] at e2
      refine ⟨μ1, wipeR ρ vs, h1, d, ρ1, h2, R2, Nw.mono (S1.trans S2), rd, e2, fun μ3 H3 σ3 R3 S3 N3 O3 => ⟨(O3.mono hsub).wipe.trans ?_, μ3, ρ1, h2, b, h3, R3, N3, e3, fun μ4 H4 R4 S4 => ?_⟩⟩
      · -- forgetting twice is forgetting once
        refine List.ext_getElem? fun j => ?_
        by_cases hj : j ∈ vs
        · rw [wipe_in _ hj, wipe_in _ hj, wipe_len]
        · rw [wipe_out hj]
      · have S14 := S1.trans (S2.trans (S3.trans S4))
        rcases e4 with ⟨rfl, y, h5, acc, e5, ea, hz, e6⟩ | ⟨rfl, e6⟩
        · refine iteT ?_
          refine ⟨μ4, ρ1, h3, y, h5, R4, N3.mono S4, e5, fun μ5 H5 v R5 S5 rv => ?_⟩
          have ha5 : μ5[h0.length]? = some Dp := (S2.trans (S3.trans (S4.trans S5))).ext _ _ ha
          obtain ⟨ws, hw, sw⟩ := R5.lst ea ha5
          obtain ⟨R6, S6⟩ := R5.write (u' := .lst (ws ++ [v])) (o' := .lst (acc ++ [y])) ea rfl ha5 rfl fun u e m => ⟨_, upd_same, (sw.append (.cons rv .nil)).mono (Stp.upd e m)⟩
          exact ⟨ws, hw, by rw [← sw.length]; exact hz, μ5, _, R6, S14.trans (S5.trans S6), ha5, e6⟩
        · refine iteF ?_
          exact ⟨μ4, h3, R4, S14, (S2.trans (S3.trans S4)).ext _ _ ha, e6⟩
    · left
      have ei : i = xs.length := by omega
      have ed : xs.drop i = [] := List.drop_of_length_le (by omega)
      rw [ed] at e1
      obtain ⟨hgd, eh⟩ := lcLoop_end e1
      subst eh
      rw [ei]
      exact ⟨W.stop μ1 _ H1 S1 R1 hgd, k μ1 H1 _ R1 (S0.trans S1) (.loc ha)⟩
end MP

/-! text MiniA -/
set_option Elab.async false
set_option linter.all false
set_option maxRecDepth 100000
set_option maxHeartbeats 4000000
/-! instances: attributes, methods, constructors. -/
namespace MP
open PySem PySem.Spec PyProof.Rows
open L2 hiding St

/-! ### lists of pairs -/
def putFD (f : Str) (v : D) : List (Str × D) → List (Str × D)
  | [] => [(f, v)]
  | (g, x) :: r => if g = f then (g, v) :: r else (g, x) :: putFD f v r
section
variable {K : PySem.W.Frag} {H : Hp} {μ : List Addr}
theorem RVs.look {κ : Type} [BEq κ] {f : κ} : ∀ {fs : List (κ × D)} {vs : List V}, RVs K H μ (fs.map Prod.snd) vs → (∀ d, fs.lookup f = some d → ∃ v, ((fs.map Prod.fst).zip vs).lookup f = some v ∧ RV K H μ d v) ∧ (fs.lookup f = none → ((fs.map Prod.fst).zip vs).lookup f = none)
  | [], _, .nil => ⟨fun _ e => (nomatch e), fun _ => rfl⟩
  | (g, x) :: fs, _, .cons (v := v) (vs := vs) r t => by
    obtain ⟨i1, i2⟩ := RVs.look (f := f) t
    rw [List.map_cons, List.zip_cons_cons]
    cases q : f == g with
    | true =>
      refine ⟨fun d e => ?_, fun e => ?_⟩
      · rw [List.lookup_cons, q] at e
        cases e
        exact ⟨v, by rw [List.lookup_cons, q], r⟩
      · rw [List.lookup_cons, q] at e
        cases e
    | false =>
      refine ⟨fun d e => ?_, fun e => ?_⟩
      · rw [List.lookup_cons, q] at e
        obtain ⟨w, a, b⟩ := i1 d e
        exact ⟨w, by rw [List.lookup_cons, q]; exact a, b⟩
      · rw [List.lookup_cons, q] at e
        rw [List.lookup_cons, q]
        exact i2 e
theorem RVs.putF {f : Str} {d : D} {v : V} (rv : RV K H μ d v) : ∀ {fs : List (Str × D)} {vs : List V}, RVs K H μ (fs.map Prod.snd) vs → ∃ ws, L2.putF f v ((fs.map Prod.fst).zip vs) = ((putFD f d fs).map Prod.fst).zip ws ∧ RVs K H μ ((putFD f d fs).map Prod.snd) ws
  | [], _, .nil => ⟨[v], rfl, .cons rv .nil⟩
  | (g, x) :: fs, _, .cons (v := w) (vs := vs) r t => by
    obtain ⟨ws, e, q⟩ := RVs.putF (f := f) (d := d) rv t
    unfold putFD
    rw [List.map_cons, List.zip_cons_cons]
    unfold L2.putF
    by_cases z : g = f
    · subst z
      rw [if_pos rfl, if_pos rfl]
      exact ⟨v :: vs, rfl, .cons rv t⟩
    · rw [if_neg z, if_neg z, e]
      exact ⟨w :: ws, rfl, .cons r q⟩
end
theorem zip_len {α : Type} {xs : List (α × D)} {K : PySem.W.Frag} {H : Hp} {μ : List Addr} {vs : List V} (r : RVs K H μ (xs.map Prod.snd) vs) : ((xs.map Prod.fst).zip vs).length = xs.length := by
  have := r.length
  rw [List.length_zip, List.length_map]
  rw [List.length_map] at this
  omega

/-! ### o.f -/
/-- an instance's class and fields -/
def insAt (h : Hs) : D → Option (Nat × Str × List (Str × D))
  | .loc n => match h[n]? with
    | some (.ins c fs) => some (n, c, fs)
    | _ => none
  | _ => none
abbrev Ats := List (Str × Str)
def mFld (at_ : Ats) (f : Str) (mo : EM) : EM := fun ρ h => (mo ρ h).bind fun r => match insAt r.2 r.1 with
  | some (_, c, fs) => if (c, f) ∈ at_ then (fs.lookup f).map fun d => (d, r.2) else none
  | none => none
/-- o.f = e: the value first -/
def sFldS (at_ : Ats) (f : Str) (mo me : EM) : SM := fun ρ h => (me ρ h).bind fun r => (mo ρ r.2).bind fun r2 => match insAt r2.2 r2.1 with
  | some (n, c, fs) => if (c, f) ∈ at_ ∧ fs.length < 1000 then some (.nx, ρ, r2.2.set n (.ins c (putFD f r.1 fs))) else none
  | none => none
/-- o.f op= e: the object first -/
def sFldAugS (at_ : Ats) (f : Str) (mo me : EM) (g : O2) : SM := fun ρ h => (mo ρ h).bind fun r => match insAt r.2 r.1 with
  | some (n, c, fs) => if (c, f) ∈ at_ then (fs.lookup f).bind fun d => (me ρ r.2).bind fun r2 => (g d r2.1 r2.2).bind fun r3 => match insAt r3.2 (.loc n) with
      | some (_, c', fs') => if c' = c ∧ fs'.length < 1000 then some (.nx, ρ, r3.2.set n (.ins c (putFD f r3.1 fs'))) else none
      | none => none
    else none
  | none => none
structure AtsOk (K : PySem.W.Frag) (at_ : Ats) : Prop where
  ok : ∀ c f, (c, f) ∈ at_ → Cls K (He.ga K c) ∧ NoAttr K (He.ga K c) f
theorem insAt_ok {K : PySem.W.Frag} {μ : List Addr} {h : Hs} {H : Hp} {d : D} {v : V} {n : Nat} {c : Str} {fs : List (Str × D)} (R : Rel K μ h H) (r : RV K H μ d v) (e : insAt h d = some (n, c, fs)) :
    ∃ a dx vs, d = .loc n ∧ v = .ref a ∧ μ[n]? = some a ∧ h[n]? = some (.ins c fs) ∧ H a = some (.ins (He.ga K c) dx ((fs.map Prod.fst).zip vs)) ∧ H dx = some (.own a) ∧ RVs K H μ (fs.map Prod.snd) vs := by
  unfold insAt at e
  split at e
  · rename_i m
    split at e
    · rename_i c' fs' en
      cases e
      obtain ⟨a, rfl, ha⟩ := r.loc_at
      obtain ⟨dx, vs, e1, e2, rr⟩ := R.obj _ _ _ ha en
      exact ⟨a, dx, vs, rfl, rfl, ha, en, e1, e2, rr⟩
    · cases e
  · cases e
section
variable {X : Cx} {e o : Expr} {es : List Expr} {me mo : EM} {mas : AM} {f : Str} {pos : Pos} {at_ : Ats}
theorem pe_fld2 (A : AtsOk X.K at_) (he : PE X e (tEm X.K me)) (hb : attributeBase e f X.env (eval e X.env) = eval e X.env) : PE X (.Attribute e f pos) (tEm X.K (mFld at_ f me)) := (pe_fld he hb).imp fun σ H Q ⟨μ, ρ, h, d, h', R, N, e, k⟩ => by
  obtain ⟨⟨x, h1⟩, e1, e⟩ := bind_some e
  refine ⟨μ, ρ, h, x, h1, R, N, e1, fun μ1 H1 vx R1 S1 rx => ?_⟩
  dsimp only at e
  split at e
  · rename_i n c fs ei
    split at e
    · rename_i hm
      obtain ⟨a, dx, vs, rfl, rfl, ha, _, e2, _, rr⟩ := insAt_ok R1 rx ei
      cases el : fs.lookup f with
      | none => rw [el] at e; cases e
      | some d' =>
        rw [el] at e
        cases e
        obtain ⟨v, ev, rv⟩ := (rr.look (f := f)).1 _ el
        obtain ⟨c1, c2⟩ := A.ok _ _ hm
        exact ⟨a, _, dx, _, v, rfl, e2, c1, c2, ev, k μ1 H1 v R1 S1 rv⟩
    · cases e
  · cases e
theorem ins_write {K : PySem.W.Frag} {μ : List Addr} {h : Hs} {H : Hp} {n : Nat} {a dx : Addr} {c : Str} {fs : List (Str × D)} {vs : List V} {d : D} {v : V} (R : Rel K μ h H) (hn : h[n]? = some (.ins c fs)) (ha : μ[n]? = some a) (hd : H dx = some (.own a))
    (rr : RVs K H μ (fs.map Prod.snd) vs) (rv : RV K H μ d v) :
    Rel K μ (h.set n (.ins c (putFD f d fs))) (upd H a (.ins (He.ga K c) dx (L2.putF f v ((fs.map Prod.fst).zip vs)))) ∧ Stp K μ H μ (upd H a (.ins (He.ga K c) dx (L2.putF f v ((fs.map Prod.fst).zip vs)))) := by
  obtain ⟨ws, ew, rw_⟩ := rr.putF (f := f) rv
  rw [ew]
  refine R.write (u' := .ins _ dx _) (o' := .ins c (putFD f d fs)) hn rfl ha rfl fun u e m => ?_
  have S : Stp K μ H μ (upd H a (.ins (He.ga K c) dx (((putFD f d fs).map Prod.fst).zip ws))) := Stp.upd e m
  exact ⟨dx, ws, upd_same, S.st _ _ hd trivial, rw_.mono S⟩
theorem ps_fld2 {pos' : Pos} (A : AtsOk X.K at_) (ho : PE X o (tEm X.K mo)) (he : PE X e (tEm X.K me)) (hs : swapsWith e (some (.Attribute o f pos')) pos.line X.env = pure false) : PS X (.Assign [.Attribute o f pos'] e pos) (tSm X.K (sFldS at_ f mo me)) := (ps_fld ho he hs).imp fun D σ H ⟨μ, ρ, h, fl, ρ', h', R, N, e, k⟩ => by
  obtain ⟨⟨x, h1⟩, e1, e⟩ := bind_some e
  obtain ⟨⟨y, h2⟩, e2, e⟩ := bind_some e
  refine ⟨μ, ρ, h, x, h1, R, N, e1, fun μ1 H1 vx R1 S1 rx => ⟨μ1, ρ, h1, y, h2, R1, N.mono S1, e2, fun μ2 H2 vy R2 S2 ry => ?_⟩⟩
  dsimp only at e
  split at e
  · rename_i n c fs ei
    split at e
    · rename_i hm
      cases e
      obtain ⟨a, dx, vs, rfl, rfl, ha, hn, e3, e4, rr⟩ := insAt_ok R2 ry ei
      obtain ⟨c1, c2⟩ := A.ok _ _ hm.1
      refine ⟨a, _, dx, _, rfl, e3, c1, c2, by rw [zip_len rr]; exact hm.2, ?_⟩
      obtain ⟨R3, S3⟩ := ins_write (f := f) R2 hn ha e4 rr (rx.mono S2)
      exact k μ2 _ R3 (S1.trans (S2.trans S3)) _ (N.mono (S1.trans (S2.trans S3)))
    · cases e
  · cases e
end

/-! ### methods of own classes -/
/-- candidates by the receiver's class -/
abbrev Cands := List (Str × ON)
def mMethI (n : Nat) (cs : Cands) (m : Str) (mo : EM) (ma : AM) : EM := fun ρ h => (mo ρ h).bind fun r => match insAt r.2 r.1 with
  | some (l, c, fs) => match fs.lookup m, cs.lookup c with
    | none, some F => (ma ρ r.2).bind fun q => if q.1.length = n then F (.loc l :: q.1) q.2 else none
    | _, _ => none
  | none => none
structure OMOk (P : Program) (w : World) (K : PySem.W.Frag) (mg : Str → Option Value) (base : Heap) (A : Around) (c m : Str) (n : Nat) (F : ON) : Prop where
  ex : ∃ (k : Nat) (f : Addr) (fd : FuncData) (ps : List Str) (ds : List Value) (dvs : List V) (sp : Sp), Cls K (He.ga K c) ∧ Meth K (He.ga K c) m f ∧ FnOk P w K mg base CX0 k f fd ps sp ∧ Room k A ∧ Binds K fd ps ds ∧ Vals dvs ds ∧
    ∀ vs H Q, vs.length = n + 1 → gN K F vs H Q → sp (vs ++ dvs) H Q E0
section
variable {X : Cx} {e o : Expr} {es : List Expr} {me mo : EM} {mas : AM} {m : Str} {apos pos : Pos}
theorem _root_.L2.PE.or {e : Expr} {t t' : TE} (p : PE X e t) (q : PE X e t') : PE X e (fun σ H Q => t σ H Q ∨ t' σ H Q) := ⟨fun pins s σ H Q I h => h.elim (p.run pins s σ H Q I) (q.run pins s σ H Q I)⟩
theorem pe_none (e : Expr) : PE X e (fun _ _ _ => False) := ⟨fun _ _ _ _ _ _ z => z.elim⟩
/-- one of several readings -/
theorem pe_some {ι : Type} {T : ι → TE} (h : ∀ i, PE X e (T i)) : PE X e (fun σ H Q => ∃ i, T i σ H Q) := ⟨fun pins s σ H Q I ⟨i, q⟩ => (h i).run pins s σ H Q I q⟩
theorem tMeth_of {c : Str} {n : Nat} {F : ON} {dvs : List V} {sp : Sp} {σ : Sl} {H : Hp} {Q : VK} {cs : Cands} (hF : cs.lookup c = some F) (hs : ∀ vs H Q, vs.length = n + 1 → gN X.K F vs H Q → sp (vs ++ dvs) H Q E0)
    {μ : List Addr} {ρ : Rho} {h : Hs} {d : D} {h' : Hs} (R : Rel X.K μ h H) (N : REnv X.K H μ ρ σ) {x : D} {h1 : Hs} {l : Nat} {fs : List (Str × D)} (e1 : mo ρ h = some (x, h1)) (ei : insAt h1 x = some (l, c, fs)) (el : fs.lookup m = none)
    {ds' : List D} {h2 : Hs} (e2 : mas ρ h1 = some (ds', h2)) (hn : ds'.length = n) (e3 : F (.loc l :: ds') h2 = some (d, h')) (k : After X.K μ H d h' Q) : tMeth (He.ga X.K c) m sp dvs E0 (tEm X.K mo) (tAm X.K mas) σ H Q := by
  refine ⟨μ, ρ, h, x, h1, R, N, e1, fun μ1 H1 vx R1 S1 rx => ?_⟩
  obtain ⟨a, dx, vs, rfl, rfl, ha, hl, e4, e5, rr⟩ := insAt_ok R1 rx ei
  refine ⟨a, dx, _, rfl, e4, (rr.look (f := m)).2 el, μ1, ρ, h1, ds', h2, R1, N.mono S1, e2, fun μ2 H2 us R2 S2 ru => ?_⟩
  have := hs (.ref a :: us) H2 Q (by rw [List.length_cons, ← ru.length, hn]) ⟨μ2, h2, _, d, h', R2, .cons ((RV.loc ha).mono S2) ru, e3, fun μ3 H3 v R3 S3 rv => k μ3 H3 v R3 (S1.trans (S2.trans S3)) rv⟩
  exact this
/-- o.m(..) by its class -/
theorem pe_methI {n : Nat} {cs : Cands} {pl : Sem Bool} (T : ∀ c F, cs.lookup c = some F → OMOk X.prog X.w X.K X.mg X.base X.A c m n F) (ho : PE X o (tEm X.K mo)) (ha : PA X (e :: es) (tAm X.K mas))
    (hst : starEach (e :: es) X.env = (false, eval e X.env) :: starEach es X.env) (hpl : (backTo pos (starEach es X.env)).any (·.1) = false)
    (ht : eval (.Call (.Attribute o m apos) (e :: es) [] pos) X.env = (do
      let ov ← eval o X.env
      standAt apos.atName
      let (f, first) ← holding [ov] (getMethod ov m pl)
      callWith pos f first (backTo pos (starEach (e :: es) X.env)) (backToKw pos (keywordEach [] X.env)))) : PE X (.Call (.Attribute o m apos) (e :: es) [] pos) (tEm X.K (mMethI n cs m mo mas)) := ⟨fun pins s σ H Q I ⟨μ, ρ, h, d, h', R, N, e, kk⟩ => by
  obtain ⟨⟨x, h1⟩, e1, e⟩ := bind_some e
  dsimp only at e
  split at e
  · rename_i l c fs ei
    split at e
    · rename_i F el hF
      obtain ⟨⟨ds', h2⟩, e2, e⟩ := bind_some e
      split at e
      · rename_i hn
        obtain ⟨k, f, fd, ps, ds, dvs, sp, hc, hm, G, hr, hb, hd, hs⟩ := (T c F hF).ex
        exact (pe_meth ho hc hm G hr hb hd pass0 ha hst hpl ht).run pins s σ H Q I (tMeth_of hF hs R N e1 ei el e2 hn e kk)
      · cases e
    · cases e
  · cases e⟩
theorem pe_methI0 {n : Nat} {cs : Cands} {pl : Sem Bool} (T : ∀ c F, cs.lookup c = some F → OMOk X.prog X.w X.K X.mg X.base X.A c m n F) (ho : PE X o (tEm X.K mo))
    (ht : eval (.Call (.Attribute o m apos) [] [] pos) X.env = (do
      let ov ← eval o X.env
      standAt apos.atName
      let (f, first) ← holding [ov] (getMethod ov m pl)
      callWith pos f first (backTo pos (starEach [] X.env)) (backToKw pos (keywordEach [] X.env)))) : PE X (.Call (.Attribute o m apos) [] [] pos) (tEm X.K (mMethI n cs m mo aNil)) := ⟨fun pins s σ H Q I ⟨μ, ρ, h, d, h', R, N, e, kk⟩ => by
  obtain ⟨⟨x, h1⟩, e1, e⟩ := bind_some e
  dsimp only at e
  split at e
  · rename_i l c fs ei
    split at e
    · rename_i F el hF
      obtain ⟨⟨ds', h2⟩, e2, e⟩ := bind_some e
      split at e
      · rename_i hn
        obtain ⟨k, f, fd, ps, ds, dvs, sp, hc, hm, G, hr, hb, hd, hs⟩ := (T c F hF).ex
        refine (pe_meth0 ho hc hm G hr hb hd pass0 ht).run pins s σ H Q I ?_
        obtain ⟨μ0, ρ0, h0, x0, h10, R0, N0, e10, kk0⟩ := tMeth_of (X := X) (mas := aNil) (m := m) hF hs R N e1 ei el e2 hn e kk
        refine ⟨μ0, ρ0, h0, x0, h10, R0, N0, e10, fun μ1 H1 vx R1 S1 rx => ?_⟩
        obtain ⟨a, dx, fs', ea, eb, ec, μ', ρ', h'', ds'', h3, R', N', e', k'⟩ := kk0 μ1 H1 vx R1 S1 rx
        cases e'
        exact ⟨a, dx, fs', ea, eb, ec, k' μ' H1 [] R' (Stp.refl ..) .nil⟩
      · cases e
    · cases e
  · cases e⟩
end

/-! ### C(..) -/
/-- where an argument comes from: a positional one, a keyword's, a default -/
inductive ASrc where
  | pos (i : Nat) | kw (i : Nat) | dfl (d : D)
def ASrc.get (ds zs : List D) : ASrc → Option D
  | .pos i => ds[i]?
  | .kw i => zs[i]?
  | .dfl d => some d
def srcs (ds zs : List D) : List ASrc → Option (List D)
  | [] => some []
  | a :: as => match a.get ds zs, srcs ds zs as with
    | some d, some r => some (d :: r)
    | _, _ => none
/-- a new instance, __init__ over it -/
def mkN (c : Str) (F : ON) : ON := fun ds h => (F (.loc h.length :: ds) (h ++ [.ins c []])).bind fun r => match r.1 with
  | .non => some (.loc h.length, r.2)
  | _ => none
def mMake (n : Nat) (c : Str) (F : ON) (ma : AM) : EM := fun ρ h => (ma ρ h).bind fun r => if r.1.length = n then mkN c F r.1 r.2 else none
def mMakeK (n m : Nat) (c : Str) (as : List ASrc) (F : ON) (ma mk : AM) : EM := fun ρ h => (ma ρ h).bind fun r => (mk ρ r.2).bind fun q => if r.1.length = n ∧ q.1.length = m then (srcs r.1 q.1 as).bind fun ds => mkN c F ds q.2 else none
structure MkOk (P : Program) (w : World) (K : PySem.W.Frag) (mg : Str → Option Value) (base : Heap) (A : Around) (c : Str) (n : Nat) (F : ON) : Prop where
  ex : ∃ (k : Nat) (f : Addr) (fd : FuncData) (ps : List Str) (ds : List Value) (dvs : List V) (sp : Sp), Mk K (He.ga K c) f ∧ FnOk P w K mg base CX0 k f fd ps sp ∧ Room (k + 1) A ∧ mg c = some (.ref (He.ga K c)) ∧ Binds K fd ps ds ∧ Vals dvs ds ∧
    ∀ vs H Q, vs.length = n + 1 → gN K F vs H Q → sp (vs ++ dvs) H Q E0
/-- with keywords ks, the arguments in the parameters' order by as -/
structure MkKOk (P : Program) (w : World) (K : PySem.W.Frag) (mg : Str → Option Value) (base : Heap) (A : Around) (c : Str) (n : Nat) (ks : List Str) (as : List ASrc) (F : ON) : Prop where
  ex : ∃ (k : Nat) (f : Addr) (fd : FuncData) (ps : List Str) (sp : Sp) (g : List Value → List Value → List Value) (gV : List V → List V → List V), Mk K (He.ga K c) f ∧ FnOk P w K mg base CX0 k f fd ps sp ∧ Room (k + 1) A ∧ mg c = some (.ref (He.ga K c)) ∧ KBn K fd ps (n + 1) ks g gV ∧
    ∀ (x : V) (us zs : List V) (du dz ds : List D) (H : Hp) (μ : List Addr), RVs K H μ du us → RVs K H μ dz zs → us.length = n → zs.length = ks.length → srcs du dz as = some ds → ∃ vs, RVs K H μ ds vs ∧ gV (x :: us) zs = x :: vs ∧ ∀ Q, gN K F (x :: vs) H Q → sp (x :: vs) H Q E0
theorem mk_alloc {K : PySem.W.Frag} {μ : List Addr} {h : Hs} {H : Hp} {x dx : Addr} {c : Str} (R : Rel K μ h H) (hx : H x = none) (hd : H dx = none) (hne : dx ≠ x) :
    Rel K (μ ++ [x]) (h ++ [.ins c []]) (upd (upd H dx (.own x)) x (.ins (He.ga K c) dx [])) ∧ Stp K μ H (μ ++ [x]) (upd (upd H dx (.own x)) x (.ins (He.ga K c) dx [])) ∧ RV K (upd (upd H dx (.own x)) x (.ins (He.ga K c) dx [])) (μ ++ [x]) (.loc h.length) (.ref x) := by
  obtain ⟨R1, S1⟩ := R.allocT (u' := .own x) hd
  have hx1 : upd H dx (.own x) x = none := by rw [upd_ne (Ne.symm hne)]; exact hx
  obtain ⟨R2, S2⟩ := R1.alloc (a := x) (u' := .ins (He.ga K c) dx []) (o' := .ins c []) hx1 ⟨dx, [], upd_same, by rw [upd_ne hne, upd_same], .nil⟩
  refine ⟨R2, S1.trans S2, .loc ?_⟩
  rw [List.getElem?_append_right (by rw [R.len]; exact Nat.le_refl _), R.len, Nat.sub_self]
  rfl
section
variable {X : Cx} {e : Expr} {es : List Expr} {kws : List Keyword} {mas mks : AM} {c : Str} {p pos : Pos} {n : Nat} {F : ON}
theorem tMake_of {dvs : List V} {sp : Sp} {σ : Sl} {H : Hp} {Q : VK} (hs : ∀ vs H Q, vs.length = n + 1 → gN X.K F vs H Q → sp (vs ++ dvs) H Q E0) (t : tEm X.K (mMake n c F mas) σ H Q) : tMake (He.ga X.K c) sp dvs E0 (tAm X.K mas) σ H Q := by
  obtain ⟨μ, ρ, h, d, h', R, N, e, k⟩ := t
  obtain ⟨⟨ds, h1⟩, e1, e⟩ := bind_some e
  refine ⟨μ, ρ, h, ds, h1, R, N, e1, fun μ1 H1 vs R1 S1 rs => ?_⟩
  split at e
  · rename_i hn
    obtain ⟨⟨d0, h2⟩, e2, e⟩ := bind_some e
    dsimp only at e
    split at e
    · cases e
      intro x dx hx hdx hne
      obtain ⟨R2, S2, rx⟩ := mk_alloc (c := c) R1 hx hdx hne
      have := hs (.ref x :: vs) _ (fun v H2 => v = .non ∧ Q (.ref x) H2) (by rw [List.length_cons, ← rs.length, hn]) ⟨_, _, _, _, _, R2, .cons rx (rs.mono S2), e2, fun μ3 H3 v R3 S3 rv => ?_⟩
      · exact this
      · cases rv
        exact ⟨rfl, k μ3 H3 _ R3 (S1.trans (S2.trans S3)) (rx.mono S3)⟩
    · cases e
  · cases e
theorem pe_mk1 (M : MkOk X.prog X.w X.K X.mg X.base X.A c n F) (hg : Gl X c) (ha : PA X (e :: es) (tAm X.K mas)) (hdb : (c == ("__debug__" : Str)) = false) (he : starEach (e :: es) X.env = (false, eval e X.env) :: starEach es X.env) (hpl : (backTo pos (starEach es X.env)).any (·.1) = false) :
    PE X (.Call (.Name c p) (e :: es) [] pos) (tEm X.K (mMake n c F mas)) := by
  obtain ⟨k, f, fd, ps, ds, dvs, sp, mk, G, hr, hm, hb, hd, hs⟩ := M.ex
  exact (pe_make mk G hr hg hm hb hd pass0 ha hdb he hpl).imp fun σ H Q t => tMake_of hs t
theorem pe_mk0 (M : MkOk X.prog X.w X.K X.mg X.base X.A c n F) (hg : Gl X c) (hdb : (c == ("__debug__" : Str)) = false) : PE X (.Call (.Name c p) [] [] pos) (tEm X.K (mMake n c F aNil)) := by
  obtain ⟨k, f, fd, ps, ds, dvs, sp, mk, G, hr, hm, hb, hd, hs⟩ := M.ex
  refine (pe_make0 mk G hr hg hm hb hd pass0 hdb).imp fun σ H Q t => ?_
  obtain ⟨μ, ρ, h, ds', h1, R, N, e1, kk⟩ := tMake_of (X := X) hs t
  cases e1
  exact kk μ H [] R (Stp.refl ..) .nil
theorem tMakeK_of {ks : List Str} {as : List ASrc} {sp : Sp} {gV : List V → List V → List V} {σ : Sl} {H : Hp} {Q : VK}
    (hs : ∀ (x : V) (us zs : List V) (du dz ds : List D) (H : Hp) (μ : List Addr), RVs X.K H μ du us → RVs X.K H μ dz zs → us.length = n → zs.length = ks.length → srcs du dz as = some ds → ∃ vs, RVs X.K H μ ds vs ∧ gV (x :: us) zs = x :: vs ∧ ∀ Q, gN X.K F (x :: vs) H Q → sp (x :: vs) H Q E0)
    (t : tEm X.K (mMakeK n ks.length c as F mas mks) σ H Q) : tMakeK (He.ga X.K c) n ks.length sp gV E0 (tAm X.K mas) (tAm X.K mks) σ H Q := by
  obtain ⟨μ, ρ, h, d, h', R, N, e, k⟩ := t
  obtain ⟨⟨ds, h1⟩, e1, e⟩ := bind_some e
  obtain ⟨⟨zs, h2⟩, e2, e⟩ := bind_some e
  refine ⟨μ, ρ, h, ds, h1, R, N, e1, fun μ1 H1 vs R1 S1 rs => ⟨μ1, ρ, h1, zs, h2, R1, N.mono S1, e2, fun μ2 H2 ws R2 S2 rw_ => ?_⟩⟩
  split at e
  · rename_i hn
    obtain ⟨all, e3, e⟩ := bind_some e
    obtain ⟨⟨d0, h3⟩, e4, e⟩ := bind_some e
    dsimp only at e
    split at e
    · cases e
      refine ⟨by rw [← rs.length]; exact hn.1, by rw [← rw_.length]; exact hn.2, fun x dx hx hdx hne => ?_⟩
      obtain ⟨R3, S3, rx⟩ := mk_alloc (c := c) R2 hx hdx hne
      obtain ⟨vs', r', ev, hq⟩ := hs (.ref x) vs ws ds zs all _ _ (rs.mono (S2.trans S3)) (rw_.mono S3) (by rw [← rs.length]; exact hn.1) (by rw [← rw_.length]; exact hn.2) e3
      rw [ev]
      refine hq _ ⟨_, _, _, _, _, R3, .cons rx r', e4, fun μ4 H4 v R4 S4 rv => ?_⟩
      cases rv
      exact ⟨rfl, k μ4 H4 _ R4 (S1.trans (S2.trans (S3.trans S4))) (rx.mono S4)⟩
    · cases e
  · cases e
theorem pe_mkK {ks : List Str} {as : List ASrc} (M : MkKOk X.prog X.w X.K X.mg X.base X.A c n ks as F) (hg : Gl X c) (ha : PA X (e :: es) (tAm X.K mas)) (hkw : PK X kws (tAm X.K mks)) (hall : (backToKw pos (keywordEach kws X.env)).all (·.1.isSome) = true)
    (hks : (backToKw pos (keywordEach kws X.env)).filterMap (·.1) = ks) (hdb : (c == ("__debug__" : Str)) = false) (he : starEach (e :: es) X.env = (false, eval e X.env) :: starEach es X.env)
    (hpl : ((backTo pos (starEach (e :: es) X.env)).any (·.1) || (backToKw pos (keywordEach kws X.env)).any (·.1.isNone)) = false) :
    PE X (.Call (.Name c p) (e :: es) kws pos) (tEm X.K (mMakeK n ks.length c as F mas mks)) := by
  obtain ⟨k, f, fd, ps, sp, g, gV, mk, G, hr, hm, hb, hs⟩ := M.ex
  exact (pe_makeK mk G hr hg hm hb pass0 ha hkw hall hks hdb he hpl).imp fun σ H Q t => tMakeK_of hs t
theorem pe_mkK0 {ks : List Str} {as : List ASrc} (M : MkKOk X.prog X.w X.K X.mg X.base X.A c 0 ks as F) (hg : Gl X c) (hkw : PK X kws (tAm X.K mks)) (hall : (backToKw pos (keywordEach kws X.env)).all (·.1.isSome) = true)
    (hks : (backToKw pos (keywordEach kws X.env)).filterMap (·.1) = ks) (hdb : (c == ("__debug__" : Str)) = false)
    (hpl : ((backTo pos (starEach [] X.env)).any (·.1) || (backToKw pos (keywordEach kws X.env)).any (·.1.isNone)) = false) :
    PE X (.Call (.Name c p) [] kws pos) (tEm X.K (mMakeK 0 ks.length c as F aNil mks)) := by
  obtain ⟨k, f, fd, ps, sp, g, gV, mk, G, hr, hm, hb, hs⟩ := M.ex
  refine (pe_makeK0 mk G hr hg hm hb pass0 hkw hall hks hdb hpl).imp fun σ H Q t => ?_
  obtain ⟨μ, ρ, h, ds', h1, R, N, e1, kk⟩ := tMakeK_of (X := X) hs t
  cases e1
  exact kk μ H [] R (Stp.refl ..) .nil
theorem pk_0 : PK X [] (tAm X.K aNil) := by
  refine ⟨fun pos pins s σ H Q I t => ?_⟩
  obtain ⟨μ, ρ, h, ds, h', R, N, e, k⟩ := t
  cases e
  exact pk_nil.run pos pins s σ H Q I (k μ H [] R (Stp.refl ..) .nil)
theorem pk_1 {nm : Option Str} {kpos : Pos} {me : EM} (he : PE X e (tEm X.K me)) (hr : PK X kws (tAm X.K mks)) : PK X (⟨nm, e, kpos⟩ :: kws) (tAm X.K (aCons me mks)) := by
  refine ⟨fun pos pins s σ H Q I t => (pk_cons he hr).run pos pins s σ H Q I ?_⟩
  obtain ⟨μ, ρ, h, ds, h', R, N, e, k⟩ := t
  obtain ⟨⟨x, h1⟩, e1, e⟩ := bind_some e
  obtain ⟨⟨xs, h2⟩, e2, e⟩ := bind_some e
  cases e
  exact ⟨μ, ρ, h, x, h1, R, N, e1, fun μ1 H1 v R1 S1 rv => ⟨μ1, ρ, h1, xs, h2, R1, N.mono S1, e2, fun μ2 H2 vs R2 S2 rs => k μ2 H2 (v :: vs) R2 (S1.trans S2) (.cons (rv.mono S2) rs)⟩⟩
end
end MP

/-! text MiniC -/
set_option Elab.async false
set_option linter.all false
set_option maxRecDepth 100000
set_option maxHeartbeats 4000000
/-! closures: cells that are told for a time. -/
namespace MP
open PySem PySem.Spec PyProof.Rows
open L2 hiding St

/-! ### some places are told otherwise -/
def sel (cs : List Addr) (H1 H2 : Hp) : Hp := fun a => if a ∈ cs then H1 a else H2 a
def H0 : Hp := fun _ => none
section
variable {K : PySem.W.Frag} {P : Program} {w : World} {cs fs : List Addr} {H H1 H2 H' : Hp} {h h' : Heap} {a b f : Addr} {o : HO} {μ : List Addr}
theorem sel_in (i : a ∈ cs) : sel cs H1 H2 a = H1 a := if_pos i
theorem sel_out (i : a ∉ cs) : sel cs H1 H2 a = H2 a := if_neg i
theorem hok_sel (hok : HOk P w H2 h) (n : ∀ a ∈ cs, ∀ o, H2 a = some o → ∃ ob u, o = .frz ob (.own u)) (hin : ∀ a ∈ cs, ∀ o, H1 a = some o → ∃ ob u, o = .frz ob (.own u) ∧ h.get? a = some ob) : HOk P w (sel cs H1 H2) h := fun a o e => by
  by_cases ha : a ∈ cs
  · rw [sel_in ha] at e
    obtain ⟨ob, u, rfl, q⟩ := hin a ha o e
    exact ⟨q, ob, q⟩
  · rw [sel_out ha] at e
    have out : ∀ b o, H2 b = some o → (∀ ob u, o ≠ .frz ob (.own u)) → sel cs H1 H2 b = some o := fun b o q z => by
      rw [sel_out]
      · exact q
      · intro hb
        obtain ⟨ob, u, e⟩ := n b hb o q
        exact z _ _ e
    exact (hok a o e).stay (fun b u _ q => q) (fun b q => out _ _ q fun _ _ z => nomatch z) (fun b xs q => out _ _ q fun _ _ z => nomatch z)
/-- behind a call that was told of cells -/
theorem un_untell {F : Hp} (u : Un fs [] (sel cs F H) H' h h') (hok : HOk P w H' h') (hF : ∀ a ∈ cs, ∃ ob x, F a = some (.frz ob (.own x)) ∧ h.get? a = some ob) (hn : ∀ a ∈ cs, H a = none) (hfs : ∀ a ∈ cs, a ∉ fs) : Un fs [] H (sel cs H0 H') h h' where
  keep := fun b o q n hb hx => by
    by_cases hc : b ∈ cs
    · obtain ⟨ob, x, e, g⟩ := hF b hc
      rw [g] at q
      cases q
      exact (hok b _ (u.frzs b _ _ ((sel_in hc).trans e))).1
    · exact u.keep b o q ((sel_out hc).trans n) hb hx
  slot := fun b o q n hb hx => u.slot b o q ((sel_out fun hc => hfs b hc hb).trans n) hb hx
  free := fun b o q n hx => by
    by_cases hc : b ∈ cs
    · exact sel_in hc
    · exact (sel_out hc).trans (u.free b o q ((sel_out hc).trans n) hx)
  there := u.there
  tups := fun b xs q => by
    have hc : b ∉ cs := fun hc => by rw [hn b hc] at q; cases q
    exact (sel_out hc).trans (u.tups b xs ((sel_out hc).trans q))
  frzs := fun b o x q => by
    have hc : b ∉ cs := fun hc => by rw [hn b hc] at q; cases q
    exact (sel_out hc).trans (u.frzs b o x ((sel_out hc).trans q))
  tbls := fun b ps q => by
    have hc : b ∉ cs := fun hc => by rw [hn b hc] at q; cases q
    obtain ⟨m, e⟩ := u.tbls b ps ((sel_out hc).trans q)
    exact ⟨m, (sel_out hc).trans e⟩
/-- behind a call that was not told of cells -/
theorem un_retell (u : Un fs [] (sel cs H0 H) H' h h') (hF : ∀ a ∈ cs, ∃ ob x, H a = some (.frz ob (.own x))) : Un fs [] H (sel cs H H') h h' where
  keep := fun b o q n hb hx => by
    have hc : b ∉ cs := fun hc => by obtain ⟨_, _, e⟩ := hF b hc; rw [n] at e; cases e
    exact u.keep b o q ((sel_out hc).trans n) hb hx
  slot := fun b o q n hb hx => by
    have hc : b ∉ cs := fun hc => by obtain ⟨_, _, e⟩ := hF b hc; rw [n] at e; cases e
    exact u.slot b o q ((sel_out hc).trans n) hb hx
  free := fun b o q n hx => by
    have hc : b ∉ cs := fun hc => by obtain ⟨_, _, e⟩ := hF b hc; rw [n] at e; cases e
    exact (sel_out hc).trans (u.free b o q ((sel_out hc).trans n) hx)
  there := u.there
  tups := fun b xs q => by
    have hc : b ∉ cs := fun hc => by obtain ⟨_, _, e⟩ := hF b hc; rw [q] at e; cases e
    exact (sel_out hc).trans (u.tups b xs ((sel_out hc).trans q))
  frzs := fun b o x q => by
    by_cases hc : b ∈ cs
    · exact (sel_in hc).trans q
    · exact (sel_out hc).trans (u.frzs b o x ((sel_out hc).trans q))
  tbls := fun b ps q => by
    have hc : b ∉ cs := fun hc => by obtain ⟨_, _, e⟩ := hF b hc; rw [q] at e; cases e
    obtain ⟨m, e⟩ := u.tbls b ps ((sel_out hc).trans q)
    exact ⟨m, (sel_out hc).trans e⟩
theorem hok_retell (u : Un fs [] (sel cs H0 H) H' h h') (hok : HOk P w H h) (hok' : HOk P w H' h') (hF : ∀ a ∈ cs, ∃ ob x, H a = some (.frz ob (.own x))) (hfs : ∀ a ∈ cs, a ∉ fs) : HOk P w (sel cs H H') h' := by
  have hn : ∀ a ∈ cs, H' a = none := fun a hc => by
    obtain ⟨ob, x, e⟩ := hF a hc
    exact u.free a ob (hok a _ e).1 (sel_in hc) (by simp)
  refine hok_sel hok' (fun a hc o q => by rw [hn a hc] at q; cases q) fun a hc o q => ?_
  obtain ⟨ob, x, e⟩ := hF a hc
  rw [e] at q
  cases q
  exact ⟨ob, x, rfl, u.keep a ob (hok a _ e).1 (sel_in hc) (hfs a hc) (by simp)⟩
theorem Env0.sel {mg : Str → Option Value} {base : Heap} {A : Around} {outer : List Env} {s : Shared} {H' : Hp} (e : Env0 P w K mg base A outer s H) (hok : HOk P w H' s.heap) (hb : ∀ b o, base.get? b = some o → H b = none → H' b = none) (hf : ∀ b ∈ frs outer, H b = none → H' b = none) : Env0 P w K mg base A outer s H' :=
  ⟨e.frames, e.mod, fun b o q => ⟨(e.bs b o q).1, hb b o q (e.bs b o q).2⟩, e.bsz, e.funs, fun b q => hf b q (e.frf b q), hok, e.bare⟩
end

/-! ### values, places over another telling -/
section
variable {K : PySem.W.Frag} {H H' : Hp} {μ : List Addr} {h : Hs} {n : Nat} {o o' : AO}
mutual
theorem RV.kp (S : ∀ a xs, H a = some (.tup xs) → H' a = some (.tup xs)) : ∀ {d : D} {v : V}, RV K H μ d v → RV K H' μ d v
  | _, _, .non => .non
  | _, _, .bl b => .bl b
  | _, _, .int i => .int i
  | _, _, .str x => .str x
  | _, _, .tup h r => .tup (h.imp (S _ _) id) (RVs.kp S r)
  | _, _, .loc h => .loc h
  | _, _, .gl x => .gl x
  | _, _, .ty n => .ty n
theorem RVs.kp (S : ∀ a xs, H a = some (.tup xs) → H' a = some (.tup xs)) : ∀ {ds : List D} {vs : List V}, RVs K H μ ds vs → RVs K H' μ ds vs
  | _, _, .nil => .nil
  | _, _, .cons h r => .cons (RV.kp S h) (RVs.kp S r)
end
/-- what a place tells leans on these -/
theorem RO.lean {b : Addr} {q : AO} (r : RO K H μ b q) (e : ∀ a u, H a = some u → (∀ ob x, u = .frz ob (.own x) → (∃ t ws, q = .clo t ws) ∧ x = b) → (∀ ps, u = .tbl ps → (∃ p q', q = .tab p q') ∧ a = b) → H' a = some u) : RO K H' μ b q := by
  have tp : ∀ a xs, H a = some (.tup xs) → H' a = some (.tup xs) := fun a xs z => e _ _ z (fun _ _ w => nomatch w) fun _ w => nomatch w
  cases q with
  | lst xs => obtain ⟨vs, z, rr⟩ := r; exact ⟨vs, e _ _ z (fun _ _ w => nomatch w) fun _ w => (nomatch w), rr.kp tp⟩
  | dK xs => obtain ⟨vs, z, rr⟩ := r; exact ⟨vs, e _ _ z (fun _ _ w => nomatch w) fun _ w => (nomatch w), rr.kp tp⟩
  | dT xs => obtain ⟨vs, z, rr⟩ := r; exact ⟨vs, e _ _ z (fun _ _ w => nomatch w) fun _ w => (nomatch w), rr.kp tp⟩
  | ins c xs => obtain ⟨dx, vs, z, zd, rr⟩ := r; exact ⟨dx, vs, e _ _ z (fun _ _ w => nomatch w) fun _ w => (nomatch w), e _ _ zd (fun _ _ w => nomatch w) fun _ w => (nomatch w), rr.kp tp⟩
  | frz ns =>
    rcases r with ⟨o, t⟩ | t
    · exact .inl ⟨o, e _ _ t (fun _ _ w => nomatch w) fun _ w => (nomatch w)⟩
    · exact .inr t
  | tab p q =>
    obtain ⟨e0, ps, e1, e2, e3⟩ := r
    exact ⟨e0, ps, e _ _ e1 (fun _ _ w => nomatch w) fun ps w => ⟨⟨p, q, rfl⟩, rfl⟩, e2, fun pos cv hc => let ⟨c, z, z'⟩ := e3 pos cv hc; ⟨c, z, e _ _ z' (fun _ _ w => nomatch w) fun _ w => (nomatch w)⟩⟩
  | clo t ws =>
    obtain ⟨cl, pm, c, ctv, x⟩ := r
    have cel : ∀ {c v}, CellF H b c v → CellF H' b c v := fun {c v} ⟨o, z, d⟩ => ⟨o, e _ _ z (fun ob x w => by cases w; exact ⟨⟨t, ws, rfl⟩, rfl⟩) fun _ w => (nomatch w), d⟩
    refine ⟨cl, pm, c, ctv, e _ _ x.fn (fun _ _ w => nomatch w) fun _ w => (nomatch w), e _ _ x.code (fun _ _ w => nomatch w) fun _ w => (nomatch w), ⟨fun y c q => let ⟨v, z⟩ := x.cells.all y c q; ⟨v, cel z⟩, x.cells.inj, ?_⟩⟩
    obtain ⟨vs, h1, h2, h4⟩ := x.cells.has
    exact ⟨vs, h1, h2.kp tp, fun i y v p q => let ⟨c, u, z, rv, z'⟩ := h4 i y v p q; ⟨c, u, z, rv, cel z'⟩⟩
  | off => obtain ⟨o, u, z⟩ := r; exact ⟨o, u, e _ _ z (fun _ _ w => nomatch w) fun _ w => (nomatch w)⟩
  | dead => trivial
theorem Rel.swap (R : Rel K μ h H) (hn : h[n]? = some o) (hU : o'.isU = true → o.isU = true) (h1 : ∀ a, μ[n]? = some a → RO K H' μ a o') (h2 : ∀ k a q, k ≠ n → μ[k]? = some a → h[k]? = some q → RO K H μ a q → RO K H' μ a q) : Rel K μ (h.set n o') H' := by
  have hlt : n < h.length := (List.getElem?_eq_some_iff.mp hn).1
  have sel : ∀ (k : Nat) (q : AO), (h.set n o')[k]? = some q → (k = n ∧ q = o') ∨ (k ≠ n ∧ h[k]? = some q) := fun k q hq => by
    by_cases hk : k = n
    · subst hk
      rw [List.getElem?_set_self hlt] at hq
      exact .inl ⟨rfl, (Option.some.inj hq).symm⟩
    · rw [List.getElem?_set_ne (Ne.symm hk)] at hq
      exact .inr ⟨hk, hq⟩
  refine ⟨by rw [List.length_set]; exact R.len, fun i j x q q' hi hj hqi hqj fi fj => ?_, fun k b q hb hq => ?_⟩
  · rcases sel i q hqi with ⟨ei, eq1⟩ | ⟨ni, hqi'⟩ <;> rcases sel j q' hqj with ⟨ej, eq2⟩ | ⟨nj, hqj'⟩
    · rw [ei, ej]
    · rw [ei] at hi ⊢
      exact R.inj _ _ _ _ _ hi hj hn hqj' (hU (eq1 ▸ fi)) fj
    · rw [ej] at hj ⊢
      exact R.inj _ _ _ _ _ hi hj hqi' hn fi (hU (eq2 ▸ fj))
    · exact R.inj _ _ _ _ _ hi hj hqi' hqj' fi fj
  · rcases sel k q hq with ⟨rfl, rfl⟩ | ⟨nk, hq⟩
    · exact h1 _ hb
    · exact h2 k b q nk hb hq (R.obj k b q hb hq)
end

/-! ### the cells of a closure at f are told, or not -/
/-- told: what the heap hp holds there -/
def tellF (f : Addr) (hp : Heap) : Hp := fun a => (hp.get? a).map fun o => .frz o (.own f)
section
variable {K : PySem.W.Frag} {H H' : Hp} {μ μ' : List Addr} {h h' : Hs} {n : Nat} {f : Addr} {cs : List Addr} {t : LamT} {ws : List D} {cl : List (Str × Addr)} {pm ctv : Value} {c : Addr} {hp : Heap}
theorem stp_untell (hn : ∀ a ∈ cs, H a = none) (S : Stp K μ (sel cs (tellF f hp) H) μ' H') (hF : ∀ a ∈ cs, ∃ ob, H' a = some (.frz ob (.own f))) : Stp K μ H μ' (sel cs H0 H') :=
  ⟨S.ext, fun a o e z => by
    have hc : a ∉ cs := fun hc => by rw [hn a hc] at e; cases e
    exact (sel_out hc).trans (S.st a o ((sel_out hc).trans e) z)⟩
theorem stp_retell (S : Stp K μ (sel cs H0 H) μ' H') : Stp K μ H μ' (sel cs H H') :=
  ⟨S.ext, fun a o e z => by
    by_cases hc : a ∈ cs
    · exact (sel_in hc).trans e
    · exact (sel_out hc).trans (S.st a o ((sel_out hc).trans e) z)⟩
/-- a place leaves: its cells are not told any more -/
theorem rel_untell (R : Rel K μ h H) (hn : h[n]? = some (.clo t ws)) (hf : μ[n]? = some f) (hF : ∀ a ∈ cs, ∃ ob, H a = some (.frz ob (.own f))) {o' : AO} (ho : ∀ a, μ[n]? = some a → RO K (sel cs H0 H) μ a o') : Rel K μ (h.set n o') (sel cs H0 H) := by
  refine R.swap hn (fun _ => rfl) ho fun k b q nk hb hq r => r.lean fun a u e z _ => ?_
  rw [sel_out]
  · exact e
  · intro hc
    obtain ⟨ob, e2⟩ := hF a hc
    rw [e] at e2
    cases e2
    obtain ⟨⟨t2, ws2, rfl⟩, e3⟩ := z _ _ rfl
    subst e3
    exact nk (R.inj _ _ _ _ _ hb hf hq hn rfl rfl)
/-- a place is told more -/
theorem rel_tell {H1 : Hp} {o : AO} (R : Rel K μ h H) (hn : h[n]? = some o) (hU : o.isU = true) (hN : ∀ a ∈ cs, H a = none) {o' : AO} (ho : ∀ a, μ[n]? = some a → RO K (sel cs H1 H) μ a o') : Rel K μ (h.set n o') (sel cs H1 H) := by
  refine R.swap hn (fun _ => hU) ho fun k b q nk hb hq r => r.lean fun a u e z _ => ?_
  rw [sel_out]
  · exact e
  · intro hc
    rw [hN a hc] at e
    cases e
end
end MP

/-! text MiniD -/
set_option Elab.async false
set_option linter.all false
set_option maxRecDepth 100000
set_option maxHeartbeats 4000000
/-! closures: a lambda made, handed to a def, called there. -/
namespace MP
open PySem PySem.Spec PyProof.Rows
open L2 hiding St
open LamX (TabS CodeO ExtN TabB)

/-! ### the lambda is made -/
abbrev fnH (o : Obj) : HO := .frz o (.frz o (.own 0))
section
variable {X : Cx} {pins : List (Addr × Obj)} {σ : L2.St} {H : Hp} {s : Shared}
theorem inv_frz {o : Obj} {t' : Nat} (I : Inv X pins σ H s) (ho : o.isFreed = false) : Inv X pins σ (upd H s.heap.objs.size (fnH o)) { s with heap := s.heap.push o, toks := t' } := by
  refine I.laid (a := s.heap.objs.size) (fun b u e => Heap.get?_push_of_some _ e) (Nat.le_refl _) ?_
  have e : (s.heap.push o).get? s.heap.objs.size = some o := Heap.get?_push_size _ ho
  exact ⟨e, e, _, e⟩
theorem lam_makeF {c P : Addr} {params : Arguments} {body : Expr} {scope : Scope} {pos : Pos} {E : Value → Shared → Prop} {Q : Value → Shared → Prop} (I : Inv X pins σ H s) (TB : TabB X.base X.mg c P) (hcode : X.env.code = .ref c)
    (hT : TabS H P (X.env.qual ++ "<lambda>")) (hdef : defaultsOf params X.env = ([], [])) (hfree : ∀ y ∈ scope.names, y.2 = .free → ∃ c, X.env.cells.lookup y.1 = some c)
    (h : ∀ (f c' : Addr) (pm ctv : Value) (H1 : Hp) (s' : Shared), Inv X pins σ H1 s' → ExtN H H1 → (∀ b ps, H b = some (.tbl ps) → b ≠ P → H1 b = some (.tbl ps)) → TabS H1 P (X.env.qual ++ "<lambda>") → H f = none →
      H1 f = some (fnH (PySem.W.kla_obj "<lambda>" (X.env.qual ++ "<lambda>") params body scope (cloFrom X.env.cells scope.names []) pm c' ctv)) → H1 c' = some (CodeO c' (X.env.qual ++ "<lambda>")) → Q (.ref f) s') :
    wpAny (model X.prog X.w) X.A (eval (.Lambda params body scope pos) X.env) Q E s := by
  obtain ⟨ps, hP, ht, ha⟩ := hT
  refine PySem.W.kla_eval hdef ?_
  have bP : s.heap.BuiltinsAt X.mg P := TB.bm.keeps I.bk
  have hP' : s.heap.get? P = some { cls := .none, data := .fields ps } := I.hok P _ hP
  cases hc : codeAmong pos ps.toList with
  | none =>
    refine PySem.W.kla_makeFunction (mg := X.mg) (c := c) (P := P) (ps := ps) (closure_ok hfree) I.ok.glob (I.mod.glob.keeps I.bk) hcode (TB.code.keeps I.bk) hP' ht hc TB.gP bP fun c' ctv h' tk hx hge hlt hrec htb => ?_
    obtain ⟨c2, oc, vs, t, e2, hoc, hd, hv⟩ := hrec
    cases e2
    have nC : H c' = none := I.hok.fresh hge
    have I1 := LamX.inv_table (t' := tk) (more := #[rawInt pos.line, rawInt pos.col, .ref c']) (h' := h') I hP (fun b o hb e => hx b o hb e) htb hge ⟨oc, vs, t, hoc, hd, hv⟩
    have hE : ExtN H (upd (upd H P (.tbl (ps ++ #[rawInt pos.line, rawInt pos.col, .ref c']))) c' (CodeO c' (X.env.qual ++ "<lambda>"))) := fun b o e n => by
      rw [upd_ne (ne_of_none e nC), upd_ne (fun z => n ps (Option.some.inj (e.symm.trans (by rw [z]; exact hP))))]
      exact e
    have eL : (ps ++ #[rawInt pos.line, rawInt pos.col, .ref c']).toList = ps.toList ++ [rawInt pos.line, rawInt pos.col, .ref c'] := by simp
    have T1 : TabS (upd (upd H P (.tbl (ps ++ #[rawInt pos.line, rawInt pos.col, .ref c']))) c' (CodeO c' (X.env.qual ++ "<lambda>"))) P (X.env.qual ++ "<lambda>") := by
      refine ⟨_, by rw [upd_ne (ne_of_none hP nC), upd_same], by rw [eL]; exact PySem.TriplesOk_snoc _ _ _ _ ht, fun p' cv hcv => ?_⟩
      rw [eL] at hcv
      rcases LamX.among_app _ ht hcv with z | z
      · obtain ⟨c0, e1, e2⟩ := ha p' cv z
        exact ⟨c0, e1, hE _ _ e2 LamX.codeO_ne⟩
      · exact ⟨c', z, upd_same⟩
    have nF := I1.hok.fresh (Nat.le_refl _)
    have I2 := inv_frz (o := PySem.W.kla_obj "<lambda>" (X.env.qual ++ "<lambda>") params body scope (cloFrom X.env.cells scope.names []) ((X.mg "__name__").getD .none) c' ctv) (t' := tk) I1 rfl
    refine h h'.objs.size c' _ ctv _ _ I2 (fun b o e n => ?_) (fun b ps' e hb => ?_) (T1.ext fun b o e => ?_) (I.hok.fresh (Nat.le_trans hge (Nat.le_of_lt hlt))) upd_same ?_
    · have e1 := hE b o e n
      exact (upd_ne (ne_of_none e1 nF)).trans e1
    · have e1 : (upd (upd H P (.tbl (ps ++ #[rawInt pos.line, rawInt pos.col, .ref c']))) c' (CodeO c' (X.env.qual ++ "<lambda>"))) b = some (.tbl ps') := by
        rw [upd_ne (ne_of_none e nC), upd_ne hb]
        exact e
      exact (upd_ne (ne_of_none e1 nF)).trans e1
    · exact (upd_ne (ne_of_none e nF)).trans e
    · exact (upd_ne (Nat.ne_of_lt hlt)).trans upd_same
  | some cv =>
    obtain ⟨c', e, hco⟩ := ha pos cv hc
    subst e
    refine PySem.W.kla_makeFunctionHit (mg := X.mg) (c := c) (P := P) (ps := ps) (closure_ok hfree) I.ok.glob (I.mod.glob.keeps I.bk) hcode (TB.code.keeps I.bk) hP' ht hc bP fun ctv h' tk hx hsz => ?_
    have I1 : Inv X pins σ H { s with heap := h', toks := tk } := I.kept hx
    have nF : H h'.objs.size = none := I1.hok.fresh (Nat.le_refl _)
    have I2 := inv_frz (o := PySem.W.kla_obj "<lambda>" (X.env.qual ++ "<lambda>") params body scope (cloFrom X.env.cells scope.names []) ((X.mg "__name__").getD .none) c' ctv) (t' := tk) I1 rfl
    refine h h'.objs.size c' _ ctv _ _ I2 (fun b o e n => ?_) (fun b ps' e hb => ?_) (TabS.ext ⟨ps, hP, ht, ha⟩ fun b o e => ?_) nF upd_same ?_
    · exact (upd_ne (ne_of_none e nF)).trans e
    · exact (upd_ne (ne_of_none e nF)).trans e
    · exact (upd_ne (ne_of_none e nF)).trans e
    · exact (upd_ne (ne_of_none hco nF)).trans hco
end
section
variable {K : PySem.W.Frag} {H H1 : Hp} {μ : List Addr} {h : Hs} {m : Nat} {p : Str × Option Str} {q : Str} {f : Addr} {ob : Obj}
theorem lam_rel (R : Rel K μ h H) (hm : h[m]? = some (.tab p q)) {P : Addr} (hP : μ[m]? = some P) (eN : ExtN H H1) (eT : ∀ b ps, H b = some (.tbl ps) → b ≠ P → H1 b = some (.tbl ps)) (hT : TabS H1 P q) (hf : H f = none) (h1 : H1 f = some (fnH ob)) :
    Rel K (μ ++ [f]) (h ++ [.off]) H1 ∧ Stp K μ H (μ ++ [f]) H1 ∧ RV K H1 (μ ++ [f]) (.loc h.length) (.ref f) := by
  have fx : ∀ o, Fix o → ∀ ps, o ≠ .tbl ps := fun o z ps e => by rw [e] at z; exact z
  have S : Stp K μ H (μ ++ [f]) H1 := ⟨fun n x q => by
    have hn : n < μ.length := (List.getElem?_eq_some_iff.mp q).1
    rw [List.getElem?_append_left hn]
    exact q, fun a o e z => eN a o e (fx o z)⟩
  have selx : ∀ (k : Nat) (b : Addr) (q : AO), (μ ++ [f])[k]? = some b → (h ++ [AO.off])[k]? = some q → (k = h.length ∧ b = f ∧ q = .off) ∨ (μ[k]? = some b ∧ h[k]? = some q) := fun k b q hb hq => by
    by_cases hk : k < h.length
    · rw [List.getElem?_append_left hk] at hq
      rw [List.getElem?_append_left (by rw [R.len]; exact hk)] at hb
      exact .inr ⟨hb, hq⟩
    · have hk2 : k < (h ++ [AO.off]).length := (List.getElem?_eq_some_iff.mp hq).1
      rw [List.length_append, List.length_singleton] at hk2
      have hk3 : k = h.length := by omega
      subst hk3
      rw [List.getElem?_append_right (Nat.le_refl _), Nat.sub_self] at hq
      rw [List.getElem?_append_right (by rw [R.len]; exact Nat.le_refl _), R.len, Nat.sub_self] at hb
      exact .inl ⟨rfl, (Option.some.inj hb).symm, (Option.some.inj hq).symm⟩
  refine ⟨⟨by simp [R.len], fun i j x q q' hi hj hqi hqj fi fj => ?_, fun k b q' hb hq => ?_⟩, S, .loc ?_⟩
  · rcases selx i x q hi hqi with ⟨ei, ex, _⟩ | ⟨hi', hqi'⟩ <;> rcases selx j x q' hj hqj with ⟨ej, hx, _⟩ | ⟨hj', hqj'⟩
    · rw [ei, ej]
    · obtain ⟨u, eu⟩ := (R.obj j x q' hj' hqj').atU fj
      rw [ex, hf] at eu; cases eu
    · obtain ⟨u, eu⟩ := (R.obj i x q hi' hqi').atU fi
      rw [hx, hf] at eu; cases eu
    · exact R.inj _ _ _ _ _ hi' hj' hqi' hqj' fi fj
  · rcases selx k b q' hb hq with ⟨_, rfl, rfl⟩ | ⟨hb', hq'⟩
    · exact ⟨_, _, h1⟩
    · have r := R.obj k b q' hb' hq'
      by_cases hbP : b = P ∧ ∃ p' q2, q' = .tab p' q2
      · obtain ⟨rfl, p', q2, rfl⟩ := hbP
        have : k = m := R.inj _ _ _ _ _ hb' hP hq' hm rfl rfl
        subst this
        rw [hm] at hq'
        cases hq'
        exact ⟨r.1, hT⟩
      · have r2 : RO K H1 μ b q' := r.lean fun a u e _ z => by
          by_cases ht : ∃ ps, u = .tbl ps
          · obtain ⟨ps, rfl⟩ := ht
            obtain ⟨⟨p', q2, e1⟩, e2⟩ := z ps rfl
            exact eT _ _ e fun w => hbP ⟨e2.symm.trans w, p', q2, e1⟩
          · exact eN _ _ e fun ps w => ht ⟨ps, w⟩
        exact r2.stay ⟨S.ext, fun a o e _ => e⟩ rfl
  · rw [List.getElem?_append_right (by rw [R.len]; exact Nat.le_refl _), R.len, Nat.sub_self]
    rfl
end

/-! ### it is handed to a def -/
/-- what the captured slots hold -/
def wsOf (ρ : Rho) : List Nat → Option (List D)
  | [] => some []
  | j :: js => match ρ[j]?, wsOf ρ js with
    | some (some d), some r => some (d :: r)
    | _, _ => none
theorem wsOf_ok {K : PySem.W.Frag} {H : Hp} {μ : List Addr} {ρ : Rho} {σ : Sl} (N : REnv K H μ ρ σ) : ∀ {js : List Nat} {ws : List D}, wsOf ρ js = some ws → ∃ vs, RVs K H μ ws vs ∧ js.map (NdefX.slotAt σ) = vs.map some
  | [], _, e => by cases e; exact ⟨[], .nil, rfl⟩
  | j :: js, ws, e => by
    unfold wsOf at e
    split at e
    · rename_i d r ed er
      cases e
      obtain ⟨v, hv, rv⟩ := N.at_ _ _ ed
      obtain ⟨vs, rs, ee⟩ := wsOf_ok N er
      exact ⟨v :: vs, .cons rv rs, by rw [List.map_cons, List.map_cons, ee, NdefX.slotAt_of hv]⟩
    · cases e
def csOf (cl : List (Str × Addr)) : List Addr := (cl.map Prod.fst).filterMap fun y => cl.lookup y
theorem csOf_mem {cl : List (Str × Addr)} {a : Addr} : a ∈ csOf cl ↔ ∃ y, cl.lookup y = some a := by
  unfold csOf
  rw [List.mem_filterMap]
  exact ⟨fun ⟨y, _, e⟩ => ⟨y, e⟩, fun ⟨y, e⟩ => ⟨y, List.mem_map.mpr ⟨_, PySem.mem_of_lookup e, rfl⟩, e⟩⟩
section
variable {X : Cx} {pins : List (Addr × Obj)} {σ : L2.St} {H : Hp} {s : Shared} {μ : List Addr} {h : Hs} {t : LamT} {js : List Nat} {cl : List (Str × Addr)} {ρ : Rho} {f c : Addr} {pm ctv : Value} {ws : List D} {Q : VK}
/-- a cell is no frame, none of the base -/
theorem cell_out (I : Inv X pins σ H s) (hfn : ∀ x, X.fn x = true) {y : Str} (e : X.env.cells.lookup y = some c) : c ∉ frs X.stack ∧ X.base.get? c = none := by
  have hc : X.s_0.heap.objs.size ≤ c := I.ok.cab y c (hfn y) e
  refine ⟨fun z => ?_, Heap.get?_none_of_le (Nat.le_trans I.ok.bsz hc)⟩
  rcases List.mem_cons.mp (I.stkSub _ z) with z | z
  · exact I.cne y c e z
  · obtain ⟨_, o, ho, _⟩ := I.ok.funs.mem z
    exact absurd (Nat.lt_of_lt_of_le (Heap.lt_size ho) hc) (Nat.lt_irrefl _)
theorem clo_told (I : Inv X pins σ H s) (cp : NdefX.Caps X cl t.fr js) (N : REnv X.K H μ ρ σ) (hw : wsOf ρ js = some ws) (hfo : H f = some (fnH (t.obj cl pm c ctv))) (hc : H c = some (CodeO c t.qual)) :
    CloAt X.K (sel (csOf cl) (tellF f s.heap) H) μ f t ws cl pm c ctv := by
  have C := NdefX.cells_of I cp
  have out : ∀ a o, H a = some o → a ∉ csOf cl := fun a o e z => by
    obtain ⟨y, ey⟩ := csOf_mem.mp z
    rw [(C.all y a ey).1] at e
    cases e
  have cel : ∀ {y a v}, cl.lookup y = some a → s.heap.IsCell a v → CellF (sel (csOf cl) (tellF f s.heap) H) f a v := fun {y a v} e ⟨o, ho, hd⟩ => ⟨o, by
    rw [sel_in (csOf_mem.mpr ⟨y, e⟩)]
    unfold tellF
    rw [ho]
    rfl, hd⟩
  obtain ⟨vs, rs, ee⟩ := wsOf_ok N hw
  refine ⟨(sel_out (out _ _ hfo)).trans hfo, (sel_out (out _ _ hc)).trans hc, ⟨fun y a e => ?_, C.inj, vs, ?_, rs.kp fun a xs e => (sel_out (out _ _ e)).trans e, fun i y v ey ev => ?_⟩⟩
  · obtain ⟨_, v, z⟩ := C.all y a e
    exact ⟨v, cel e z⟩
  · rw [← C.len, ee, List.length_map]
  · obtain ⟨a, ea, z⟩ := C.has i y ey
    obtain ⟨u, ru, iu⟩ := z v (by rw [ee, List.getElem?_map, ev]; rfl)
    exact ⟨a, u, ea, ru, cel ea iu⟩
/-- a def called, the closure at the place m handed on -/
theorem run_fnC {k n m : Nat} {g : Addr} {fd : FuncData} {ps : List Str} {sp : Sp} {dvs : List V} {dsv : List Value} {F : ON} {ds : List D} {us : List Value} {vs : List V} {d : D} {h' : Hs} {t' : LamT} {ws' : List D}
    (Fo : FnOk X.prog X.w X.K X.mg X.base CX0 k g fd ps sp) (hr : Room k X.A) (hb : Binds X.K fd ps dsv) (hd : Vals dvs dsv) (hs : ∀ vs H Q, vs.length = n → gN X.K F vs H Q → sp (vs ++ dvs) H Q E0)
    (I : Inv X pins σ H s) (hfn : ∀ x, X.fn x = true) (cp : NdefX.Caps X cl t.fr js) (R : Rel X.K μ h H) (N : REnv X.K H μ ρ σ) (hf : μ[m]? = some f) (hfo : H f = some (fnH (t.obj cl pm c ctv))) (hc : H c = some (CodeO c t.qual)) (hm : h[m]? = some .off)
    (hw : wsOf ρ js = some ws) (r : RVs X.K H μ ds vs) (rv : Vals vs us) (hl : ds.length = n) (e : F ds (h.set m (.clo t ws)) = some (d, h')) (hm' : h'[m]? = some (.clo t' ws')) (k0 : After X.K μ H d (h'.set m .dead) Q) :
    wpAny (model X.prog X.w) X.A (call (.ref g) us) (EP X pins σ Q) X.xe s := by
  have C := NdefX.cells_of I cp
  have ca := clo_told I cp N hw hfo hc
  have hn : ∀ a ∈ csOf cl, H a = none := fun a z => by obtain ⟨y, ey⟩ := csOf_mem.mp z; exact (C.all y a ey).1
  have out : ∀ a o, H a = some o → a ∉ csOf cl := fun a o e z => by rw [hn a z] at e; cases e
  have hF : ∀ a ∈ csOf cl, ∃ ob, tellF f s.heap a = some (.frz ob (.own f)) ∧ s.heap.get? a = some ob := fun a z => by
    obtain ⟨y, ey⟩ := csOf_mem.mp z
    obtain ⟨_, v, o, ho, _⟩ := C.all y a ey
    exact ⟨o, by unfold tellF; rw [ho]; rfl, ho⟩
  have cout : ∀ a ∈ csOf cl, a ∉ frs X.stack ∧ X.base.get? a = none := fun a z => by
    obtain ⟨y, ey⟩ := csOf_mem.mp z
    exact cell_out I hfn (cp.sub y a ey)
  have hok1 : HOk X.prog X.w (sel (csOf cl) (tellF f s.heap) H) s.heap := hok_sel I.hok (fun a z o q => by rw [hn a z] at q; cases q) fun a z o q => by
    obtain ⟨ob, e1, e2⟩ := hF a z
    rw [e1] at q
    cases q
    exact ⟨ob, f, rfl, e2⟩
  have e0 : Env0 X.prog X.w X.K X.mg X.base X.A X.stack s (sel (csOf cl) (tellF f s.heap) H) := Env0.sel I.env0 hok1
    (fun b o q z => by
      rw [sel_out]
      · exact z
      · intro w; rw [(cout b w).2] at q; cases q)
    (fun b q z => by
      rw [sel_out]
      · exact z
      · exact fun w => (cout b w).1 q)
  have r2 : Vals (vs ++ dvs) (us ++ dsv) := rv.append hd
  have R1 : Rel X.K μ (h.set m (.clo t ws)) (sel (csOf cl) (tellF f s.heap) H) := rel_tell R hm rfl hn fun a q => by
    rw [hf] at q
    cases q
    exact ⟨cl, pm, c, ctv, ca⟩
  have sp1 := hs vs (sel (csOf cl) (tellF f s.heap) H) (fun v H' => Q v (sel (csOf cl) MP.H0 H')) (by rw [← r.length]; exact hl) ⟨μ, _, ds, d, h', R1, r.kp fun a xs e => (sel_out (out _ _ e)).trans e, e, fun μ' H' v R' S' rv' => by
    have hF' : ∀ a ∈ csOf cl, ∃ ob, H' a = some (.frz ob (.own f)) := fun a z => by
      obtain ⟨ob, e1, _⟩ := hF a z
      exact ⟨ob, S'.st a _ ((sel_in z).trans e1) trivial⟩
    exact k0 μ' _ v (rel_untell R' hm' (S'.ext _ _ hf) hF' fun _ _ => trivial) (stp_untell hn S' hF') (rv'.kp fun a xs e => by
      rw [sel_out]
      · exact e
      · intro z
        obtain ⟨ob, e1⟩ := hF' a z
        rw [e] at e1
        cases e1)⟩
  have hl2 : (us ++ dsv).length = ps.length := by rw [← r2.length]; exact Fo.len _ _ _ _ sp1
  refine wpAny_call (codeAny_mono (Fo.run X.A X.stack s _ ⟨us, []⟩ (us ++ dsv) (vs ++ dvs) _ E0 hr e0 (hb s us I.kIn hl2) r2 sp1) fun r s' hq => ?_)
  cases r with
  | error e => exact False.elim hq
  | ok fl =>
    cases fl with
    | ret u =>
      obtain ⟨v, H', os, bare, un, hok, rv', q⟩ := hq
      have hF2 : ∀ a ∈ csOf cl, ∃ ob x, tellF f s.heap a = some (.frz ob (.own x)) ∧ s.heap.get? a = some ob := fun a z => let ⟨ob, e1, e2⟩ := hF a z; ⟨ob, f, e1, e2⟩
      refine I.after ⟨v, sel (csOf cl) MP.H0 H', os, bare, un_untell un hok hF2 hn fun a z => (cout a z).1, ?_, rv', q⟩
      exact hok_sel hok (fun a z o q => by
        obtain ⟨ob, x, e1, _⟩ := hF2 a z
        rw [un.frzs a _ _ ((sel_in z).trans e1)] at q
        cases q
        exact ⟨ob, _, rfl⟩) fun a z o q => nomatch q
    | next => exact False.elim hq
    | brk => exact False.elim hq
    | cont => exact False.elim hq
end
end MP

/-! text MiniE -/
set_option Elab.async false
set_option linter.all false
set_option maxRecDepth 100000
set_option maxHeartbeats 4000000
/-! closures: the rules. -/
namespace MP
open PySem PySem.Spec PyProof.Rows
open L2 hiding St
open LamX (TabS CodeO ExtN TabB)

def spF (K : PySem.W.Frag) (n : Nat) (F : ON) : Sp := fun vs H Q _ => vs.length = n ∧ gN K F vs H Q
structure FOk (P : Program) (w : World) (K : PySem.W.Frag) (mg : Str → Option Value) (base : Heap) (A : Around) (x : Str) (n : Nat) (F : ON) : Prop where
  ex : ∃ (k : Nat) (f : Addr) (fd : FuncData) (ps : List Str) (ds : List Value) (dvs : List V) (sp : Sp), FnOk P w K mg base CX0 k f fd ps sp ∧ Room k A ∧ mg x = some (.ref f) ∧ PySem.W.keepIn K (.ref f) = true ∧ Binds K fd ps ds ∧ Vals dvs ds ∧
    ∀ vs H Q, vs.length = n → gN K F vs H Q → sp (vs ++ dvs) H Q E0
/-! ### a closure's promise -/
structure CloOk (P : Program) (w : World) (K : PySem.W.Frag) (mg : Str → Option Value) (base : Heap) (k : Nat) (t : LamT) (n : Nat) (G : ON) : Prop where
  run : ∀ (A : Around) (outer : List Env) (s : Shared) (H : Hp) (f : Addr) (cl : List (Str × Addr)) (pm ctv : Value) (c : Addr) (us : List Value) (vs wv : List V) (Q : VK), Room k A → Env0 P w K mg base A outer s H → H f = some (fnH (t.obj cl pm c ctv)) → H c = some (CodeO c t.qual) →
    NdefX.CellsAt cl t.fr (wv.map some) s.heap H → Vals vs us → vs.length = n → gN K G (vs ++ wv) H Q → codeAny (model P w) A (.call (.ref f) ⟨us, []⟩) (CR CX0 outer P w H s Q E0) s
theorem CloOk.mono {P : Program} {w : World} {K : PySem.W.Frag} {mg : Str → Option Value} {base : Heap} {j k : Nat} {t : LamT} {n : Nat} {G : ON} (o : CloOk P w K mg base j t n G) (h : j ≤ k) : CloOk P w K mg base k t n G := ⟨fun A outer s H f cl pm ctv c us vs wv Q hr => o.run A outer s H f cl pm ctv c us vs wv Q (hr.mono h)⟩
abbrev LamT.nf (t : LamT) (cl : List (Str × Addr)) (c : Addr) : NdefX.NF := ⟨"<lambda>", t.qual, t.params, [], t.scope, cl, c⟩
theorem clo_ok {P : Program} {w : World} {K : PySem.W.Frag} {mg : Str → Option Value} {base : Heap} {k : Nat} {t : LamT} {N : List Str} {m : EM} (S : NdefX.NScope N t.ps t.fr t.scope)
    (hbind : ∀ (cl : List (Str × Addr)) (pm ctv : Value) (c : Addr) (us : List Value), us.length = t.ps.length → bindArgs (PySem.W.kla_fn "<lambda>" t.qual t.params t.body t.scope cl pm (.ref c) ctv) ⟨us, []⟩ = pure (t.ps.zip us))
    (hbody : ∀ (A : Around) (outer : List Env) (s : Shared) (H : Hp) (f : Addr) (cl : List (Str × Addr)) (c : Addr), Room k (A.deeper (NdefX.envF (t.nf cl c) f s.heap.objs.size)) → PE (NdefX.ncx CX0 P w K mg base N (t.nf cl c) f A outer s H E0).nox t.body (tEm K m)) :
    CloOk P w K mg base (k + 1) t t.ps.length (fun ds h => m (ds.map some ++ List.replicate (N.length - ds.length) none) h) := by
  refine ⟨fun A outer s H f cl pm ctv c us vs wv Q hr e0 hf hc C r hn hq => ?_⟩
  have lim : s.heap.NoLimit := e0.mod.nolimit.keeps fun b o e => (e0.bs b o e).1
  have ho : s.heap.get? f = some (t.obj cl pm c ctv) := (e0.hok f _ hf).1
  refine PySem.W.kla_callFunE hr.depth ho rfl S.co S.gen rfl (NdefX.codeO_at e0.hok hc) ?_
  have hb := hbind cl pm ctv c us (by rw [← r.length]; exact hn)
  rw [hb]
  refine wpAny_pure (wpAny_newFunctionEnv S.nocell (fun ⟨n, _⟩ hy => S.par n (List.of_mem_zip hy).1) (fun h₁ hns hsb => ⟨lim.fresh _ hsb, ?_⟩) S.kind)
  have kp : ∀ b o, s.heap.get? b = some o → h₁.get? b = some o := fun b o e => hsb.extBut b o (Nat.ne_of_lt (Heap.lt_size e)) (Heap.get?_push_of_some _ e)
  have I : Inv (NdefX.ncx CX0 P w K mg base N (t.nf cl c) f A outer s H E0) [] (NdefX.startF N vs (wv.map some)) H { s with heap := h₁, toks := s.toks + (t.ps.zip us).length } := NdefX.inv_startN (F := t.nf cl c) S hr.hd e0 hn r C hns kp
  refine PySem.W.kla_codeExpr (wpAny_mono ((hbody A outer s H f cl c (hr.deeper _)).nox.run [] _ _ H Q I ?_) (fun v s' hv => ?_) fun e s' hv => hv)
  · obtain ⟨μ, h, ds, d, h', R, rs, e, kk⟩ := hq
    refine ⟨μ, _, h, d, h', R, ?_, e, kk⟩
    have hl := rs.length
    have hw : vs.length + wv.length ≤ N.length := by
      have q := congrArg List.length S.pre
      rw [List.length_take, List.length_append] at q
      have := C.len
      rw [List.length_map] at this
      omega
    have es : NdefX.startF N vs (wv.map some) = (vs ++ wv).map some ++ List.replicate (N.length - (vs ++ wv).length) none := by
      unfold NdefX.startF
      rw [List.map_append, List.append_assoc, List.length_map, List.length_append, Nat.sub_sub]
    rw [es]
    refine ⟨by simp [hl]; omega, fun i d e => ?_⟩
    by_cases hi : i < ds.length
    · rw [List.getElem?_append_left (by rw [List.length_map]; exact hi), List.getElem?_map] at e
      cases q : ds[i]? with
      | none => rw [q] at e; cases e
      | some d' =>
        rw [q] at e
        cases e
        obtain ⟨v, hv, rv⟩ := rs.get q
        refine ⟨v, ?_, rv⟩
        rw [List.getElem?_append_left (by rw [List.length_map, ← hl]; exact hi), List.getElem?_map, hv]
        rfl
    · rw [List.getElem?_append_right (by rw [List.length_map]; omega), List.length_map, List.getElem?_replicate] at e
      split at e <;> cases e
  · obtain ⟨x, H', J, rv, q⟩ := hv
    exact ⟨x, H', J.os, J.bare, J.base, J.hok, rv, q⟩

/-! ### a name that holds a def or a closure is called -/
/-- a closure at the place m runs -/
def callC (n : Nat) (L : LamT → Nat → Option ON) (m : Nat) (ds : List D) (h : Hs) : Option (D × Hs) := match h[m]? with
  | some (.clo t ws) => match L t n with
    | some G => (G (ds ++ ws) (h.set m .off)).bind fun r => match r.2[m]? with
      | some .off => some (r.1, r.2.set m (.clo t ws))
      | _ => none
    | none => none
  | _ => none
def mCallV (n : Nat) (V : List ((Str × Nat) × ON)) (L : LamT → Nat → Option ON) (i : Nat) (ma : AM) : EM := fun ρ h => match ρ[i]? with
  | some (some (.gl y)) => match V.lookup (y, n) with
    | some F => (ma ρ h).bind fun r => if r.1.length = n then F r.1 r.2 else none
    | none => none
  | some (some (.loc m)) => match h[m]? with
    | some (.clo _ _) => (ma ρ h).bind fun r => if r.1.length = n then callC n L m r.1 r.2 else none
    | _ => none
  | _ => none
section
variable {X : Cx} {pins : List (Addr × Obj)} {σ : L2.St} {H : Hp} {s : Shared} {μ : List Addr} {h : Hs} {t : LamT} {f : Addr} {ws : List D} {Q : VK}
theorem run_clo {k n m : Nat} {G : ON} {ds : List D} {us : List Value} {vs : List V} {d : D} {h' : Hs} (Co : CloOk X.prog X.w X.K X.mg X.base k t n G) (hr : Room k X.A) (I : Inv X pins σ H s) (R : Rel X.K μ h H) (hf : μ[m]? = some f) (hm : h[m]? = some (.clo t ws))
    (r : RVs X.K H μ ds vs) (rv : Vals vs us) (hl : ds.length = n) (e : G (ds ++ ws) (h.set m .off) = some (d, h')) (hm' : h'[m]? = some .off) (k0 : After X.K μ H d (h'.set m (.clo t ws)) Q) :
    PySem.W.FnAt f s.heap ∧ wpAny (model X.prog X.w) X.A (call (.ref f) us) (EP X pins σ Q) X.xe s := by
  obtain ⟨cl, pm, c, ctv, ca⟩ := R.obj m f _ hf hm
  have ho : s.heap.get? f = some (t.obj cl pm c ctv) := (I.hok f _ ca.fn).1
  refine ⟨⟨_, _, _, _, ho⟩, ?_⟩
  have hF : ∀ a ∈ csOf cl, ∃ ob v, H a = some (.frz ob (.own f)) ∧ ob.data = .cell v := fun a z => by
    obtain ⟨y, ey⟩ := csOf_mem.mp z
    obtain ⟨v, ob, e1, e2⟩ := ca.cells.all y a ey
    exact ⟨ob, v, e1, e2⟩
  have hF1 : ∀ a ∈ csOf cl, ∃ ob, H a = some (.frz ob (.own f)) := fun a z => let ⟨ob, v, e, _⟩ := hF a z; ⟨ob, e⟩
  have hF2 : ∀ a ∈ csOf cl, ∃ ob x, H a = some (.frz ob (.own x)) := fun a z => let ⟨ob, e⟩ := hF1 a z; ⟨ob, f, e⟩
  have hfs : ∀ a ∈ csOf cl, a ∉ frs X.stack := fun a z w => by
    obtain ⟨ob, e⟩ := hF1 a z
    rw [I.stkFree a w] at e
    cases e
  have out : ∀ a o, H a = some o → (∀ ob x, o ≠ .frz ob (.own x)) → sel (csOf cl) MP.H0 H a = some o := fun a o e z => by
    rw [sel_out]
    · exact e
    · intro w
      obtain ⟨ob, x, e2⟩ := hF2 a w
      rw [e] at e2
      cases e2
      exact z _ _ rfl
  have hok1 : HOk X.prog X.w (sel (csOf cl) MP.H0 H) s.heap := hok_sel I.hok (fun a z o q => by
    obtain ⟨ob, x, e2⟩ := hF2 a z
    rw [e2] at q
    cases q
    exact ⟨ob, x, rfl⟩) fun a z o q => nomatch q
  have dn : ∀ b, H b = none → sel (csOf cl) MP.H0 H b = none := fun b e => by
    by_cases z : b ∈ csOf cl
    · exact sel_in z
    · exact (sel_out z).trans e
  have e0 : Env0 X.prog X.w X.K X.mg X.base X.A X.stack s (sel (csOf cl) MP.H0 H) := Env0.sel I.env0 hok1 (fun b o _ z => dn b z) fun b _ z => dn b z
  obtain ⟨wv, lw, rw_, hw⟩ := ca.cells.has
  have cellE : ∀ {a v}, CellF H f a v → s.heap.IsCell a v := fun {a v} ⟨o, e, d⟩ => ⟨o, (I.hok a _ e).1, d⟩
  have C : NdefX.CellsAt cl t.fr (wv.map some) s.heap (sel (csOf cl) MP.H0 H) := by
    refine ⟨by rw [List.length_map]; exact lw.symm, fun y a e => ⟨sel_in (csOf_mem.mpr ⟨y, e⟩), ?_⟩, ca.cells.inj, fun i y e => ?_⟩
    · obtain ⟨v, z⟩ := ca.cells.all y a e
      exact ⟨v, cellE z⟩
    · cases q : wv[i]? with
      | none =>
        have h1 := List.getElem?_eq_none_iff.mp q
        have h2 := (List.getElem?_eq_some_iff.mp e).1
        omega
      | some v =>
        obtain ⟨a, u, ea, ru, z⟩ := hw i y v e q
        refine ⟨a, ea, fun v' ev => ?_⟩
        rw [List.getElem?_map, q] at ev
        cases ev
        exact ⟨u, ru, cellE z⟩
  have tup1 : ∀ a xs, H a = some (.tup xs) → sel (csOf cl) MP.H0 H a = some (.tup xs) := fun a xs e => out _ _ e fun _ _ z => nomatch z
  have R1 : Rel X.K μ (h.set m .off) (sel (csOf cl) MP.H0 H) := rel_untell R hm hf hF1 fun a q => by
    rw [hf] at q
    cases q
    exact ⟨_, _, out _ _ ca.fn fun _ _ z => nomatch z⟩
  have gq : gN X.K G (vs ++ wv) (sel (csOf cl) MP.H0 H) (fun v H' => (∀ a ∈ csOf cl, H' a = none) → Q v (sel (csOf cl) H H')) :=
    ⟨μ, _, ds ++ ws, d, h', R1, (r.kp tup1).append (rw_.kp tup1), e, fun μ' H' v R' S' rv' hn => by
      have S2 : Stp X.K μ H μ' (sel (csOf cl) H H') := stp_retell S'
      refine k0 μ' _ v (rel_tell R' hm' rfl hn fun a q => ?_) S2 (rv'.kp fun a xs e => ?_)
      · rw [S'.ext _ _ hf] at q
        cases q
        exact RO.stay S2 (q := .clo t ws) ⟨cl, pm, c, ctv, ca⟩ (by rw [S2.st _ _ ca.fn trivial]; exact ca.fn.symm)
      · rw [sel_out]
        · exact e
        · intro z
          rw [hn a z] at e
          cases e⟩
  refine wpAny_call (codeAny_mono (Co.run X.A X.stack s _ f cl pm ctv c us vs wv _ hr e0 (out _ _ ca.fn fun _ _ z => nomatch z) (out _ _ ca.code fun _ _ z => nomatch z) C rv (by rw [← r.length]; exact hl) gq) fun r s' hq => ?_)
  cases r with
  | error e => exact False.elim hq
  | ok fl =>
    cases fl with
    | ret u =>
      obtain ⟨v, H', os, bare, un, hok, rv', q⟩ := hq
      have hn : ∀ a ∈ csOf cl, H' a = none := fun a z => by
        obtain ⟨ob, e1⟩ := hF1 a z
        exact un.free a ob (I.hok a _ e1).1 (sel_in z) (by simp)
      exact I.after ⟨v, _, os, bare, un_retell un hF2, hok_retell un I.hok hok hF2 hfs, rv', q hn⟩
    | next => exact False.elim hq
    | brk => exact False.elim hq
    | cont => exact False.elim hq
end
section
variable {X : Cx} {e : Expr} {es : List Expr} {mas : AM} {i n : Nat} {x : Str} {p pos : Pos} {V : List ((Str × Nat) × ON)} {L : LamT → Nat → Option ON}
/-- a def that is a value -/
structure VOk (P : Program) (w : World) (K : PySem.W.Frag) (mg : Str → Option Value) (base : Heap) (A : Around) (x : Str) (n : Nat) (F : ON) : Prop where
  f : FOk P w K mg base A x n F
  at_ : mg x = some (.ref (He.ga K x))
theorem pe_cv (hV : ∀ y m F, V.lookup (y, m) = some F → VOk X.prog X.w X.K X.mg X.base X.A y m F) (hL : ∀ t m G, L t m = some G → ∃ k, CloOk X.prog X.w X.K X.mg X.base k t m G ∧ Room k X.A)
    (hN : X.N[i]? = some x) (hv : Vis X.env.scope x) (ha : PA X (e :: es) (tAm X.K mas)) (hd : (x == ("__debug__" : Str)) = false) (hcd : (x == ("__classdict__" : Str)) = false)
    (he : starEach (e :: es) X.env = (false, eval e X.env) :: starEach es X.env) (hpl : (backTo pos (starEach es X.env)).any (·.1) = false) :
    PE X (.Call (.Name x p) (e :: es) [] pos) (tEm X.K (mCallV n V L i mas)) := by
  refine ⟨fun pins s σ H Q I ⟨μ, ρ, h, d, h', R, N, em, kk⟩ => ?_⟩
  have go : ∀ v, σ[i]? = some (some v) → (∀ u s1, RelV v u → Inv X pins σ H s1 → wpAny (model X.prog X.w) X.A (callWith pos u [] (backTo pos (starEach (e :: es) X.env)) (backToKw pos (keywordEach [] X.env))) (EP X pins σ Q) X.xe s1) →
      wpAny (model X.prog X.w) X.A (eval (.Call (.Name x p) (e :: es) [] pos) X.env) (EP X pins σ Q) X.xe s := fun v hs k => by
    refine wpAny_Call_Name_kw (thn ((pe_var (pos := p) hN hv hd hcd).run pins s σ H (fun v' H1 => v' = v ∧ H1 = H) I ⟨v, hs, rfl, rfl⟩) fun u s1 ⟨v', H1, I1, r1, q1⟩ => ?_)
    obtain ⟨ev, eH⟩ := q1
    subst ev
    rw [eH] at I1
    exact k u s1 r1 I1
  unfold mCallV at em
  split at em
  · rename_i y er
    split at em
    · rename_i F hF
      obtain ⟨⟨ds, h1⟩, e1, e2⟩ := bind_some em
      split at e2
      · rename_i hl
        obtain ⟨v, hs, rv⟩ := N.at_ _ _ er
        cases rv
        refine go _ hs fun u s1 ru I1 => ?_
        obtain rfl : u = Value.ref _ := ru
        obtain ⟨⟨k, f, fd, ps, dv, dvs, sp, G, hr, hm, hk, hb, hd', hsp⟩, hat⟩ := hV _ _ _ hF |> fun z => And.intro z.f.ex z.at_
        rw [hm] at hat
        cases hat
        refine PySem.W.callWith_K (h₀ := X.base) I1.ok.mod.kin hk (thn (ha.run pos pins s1 σ H (fun vs H2 => vs.length = n ∧ gN X.K F vs H2 Q) I1 ⟨μ, ρ, h, ds, h1, R, N, e1, fun μ1 H1 vs R1 S1 rs => ⟨by rw [← rs.length]; exact hl, μ1, h1, ds, d, h', R1, rs, e2, fun μ2 H2 v R2 S2 rv => kk μ2 H2 v R2 (S1.trans S2) rv⟩⟩) fun us s2 ⟨vs, H2, I2, r, q⟩ => ⟨I2.kIn, ?_⟩) he hpl
        exact run_fn G hr hb hd' pass0 I2 r (hsp _ _ _ q.1 q.2)
      · cases e2
    · cases em
  · rename_i m er
    split at em
    case h_2 => cases em
    rename_i t0 ws0 hm0
    obtain ⟨⟨ds, h1⟩, e1, e2⟩ := bind_some em
    split at e2
    · rename_i hl
      unfold callC at e2
      split at e2
      · rename_i t ws hm
        split at e2
        · rename_i G hG
          obtain ⟨⟨d0, h2⟩, e3, e4⟩ := bind_some e2
          split at e4
          · rename_i hm2
            cases e4
            obtain ⟨k, Co, hr⟩ := hL _ _ _ hG
            obtain ⟨v, hs, rv⟩ := N.at_ _ _ er
            obtain ⟨f, rfl, hf⟩ := rv.loc_at
            refine go _ hs fun u s1 ru I1 => ?_
            obtain rfl : u = Value.ref f := ru
            have run : ∀ us s2 vs H2, Inv X pins σ H2 s2 → Vals vs us → (∃ μ1, Rel X.K μ1 h1 H2 ∧ Stp X.K μ H μ1 H2 ∧ RVs X.K H2 μ1 ds vs) → PySem.W.FnAt f s2.heap ∧ wpAny (model X.prog X.w) X.A (call (.ref f) us) (EP X pins σ Q) X.xe s2 := fun us s2 vs H2 I2 r ⟨μ1, R1, S1, rs⟩ =>
              run_clo Co hr I2 R1 (S1.ext _ _ hf) hm rs r hl e3 hm2 fun μ2 H3 v R2 S2 rv => kk μ2 H3 v R2 (S1.trans S2) rv
            have fa : PySem.W.FnAt f s1.heap := by
              obtain ⟨cl, pm, c, ctv, ca⟩ := R.obj m f _ hf hm0
              exact ⟨_, _, _, _, (I1.hok f _ ca.fn).1⟩
            exact PySem.W.callWith_F (first := []) fa (thn (ha.run pos pins s1 σ H (fun vs H2 => ∃ μ1, Rel X.K μ1 h1 H2 ∧ Stp X.K μ H μ1 H2 ∧ RVs X.K H2 μ1 ds vs) I1 ⟨μ, ρ, h, ds, h1, R, N, e1, fun μ1 H1 vs R1 S1 rs => ⟨μ1, R1, S1, rs⟩⟩) fun us s2 ⟨vs, H2, I2, r, q⟩ => run us s2 vs H2 I2 r q) he hpl
          · cases e4
        · cases e2
      · cases e2
    · cases e2
  · cases em
end
end MP

/-! text MiniF -/
set_option Elab.async false
set_option linter.all false
set_option maxRecDepth 100000
set_option maxHeartbeats 4000000
/-! closures: the statement that makes one, the one that hands it on. -/
namespace MP
open PySem PySem.Spec PyProof.Rows
open L2 hiding St
open LamX (TabS CodeO ExtN TabB)

def tLamF (P : Addr) (t : LamT) (cl : List (Str × Addr)) : TE := fun σ H Q => TabS H P t.qual ∧ ∀ (f c : Addr) (pm ctv : Value) (H1 : Hp), ExtN H H1 → (∀ b ps, H b = some (.tbl ps) → b ≠ P → H1 b = some (.tbl ps)) → TabS H1 P t.qual → H f = none →
  H1 f = some (fnH (t.obj cl pm c ctv)) → H1 c = some (CodeO c t.qual) → Q (.ref f) H1
/-- the closure at the place m is the one of this frame -/
def Knows (t : LamT) (cl : List (Str × Addr)) (m : Nat) (μ : List Addr) (H : Hp) : Prop := ∃ (f c : Addr) (pm ctv : Value), μ[m]? = some f ∧ H f = some (fnH (t.obj cl pm c ctv)) ∧ H c = some (CodeO c t.qual)
theorem Knows.mono {t : LamT} {cl : List (Str × Addr)} {m : Nat} {K : PySem.W.Frag} {μ μ' : List Addr} {H H' : Hp} (k : Knows t cl m μ H) (S : Stp K μ H μ' H') : Knows t cl m μ' H' := let ⟨f, c, pm, ctv, a, b, d⟩ := k; ⟨f, c, pm, ctv, S.ext _ _ a, S.st _ _ b trivial, S.st _ _ d trivial⟩
def tKm (K : PySem.W.Frag) (t : LamT) (cl : List (Str × Addr)) (mi : Nat → EM) : TE := fun σ H Q => ∃ m μ ρ h d h', Knows t cl m μ H ∧ Rel K μ h H ∧ REnv K H μ ρ σ ∧ mi m ρ h = some (d, h') ∧ After K μ H d h' Q
def tKS (K : PySem.W.Frag) (t : LamT) (cl : List (Str × Addr)) (mi : Nat → SM) : TS := fun D σ H => ∃ m μ ρ h f ρ' h', Knows t cl m μ H ∧ Rel K μ h H ∧ REnv K H μ ρ σ ∧ mi m ρ h = some (f, ρ', h') ∧ ∀ μ' H', Rel K μ' h' H' → Stp K μ H μ' H' → EndS K μ' H' ρ' D f
/-- a def called, a closure among its arguments -/
def inC (n : Nat) (F : ON) (t : LamT) (js : List Nat) (mas : AM) (m : Nat) : EM := fun ρ h => (mas ρ h).bind fun r => if r.1.length = n then match r.2[m]? with
    | some .off => (wsOf ρ js).bind fun ws => (F r.1 (r.2.set m (.clo t ws))).bind fun r2 => match r2.2[m]? with
      | some (.clo _ _) => some (r2.1, r2.2.set m .dead)
      | _ => none
    | _ => none
  else none
def isTabAt (h : Hs) (i : Nat) (p : Str × Option Str) (q : Str) : Bool := match h[i]? with
  | some (.tab p' q') => decide (p' = p) && decide (q' = q)
  | _ => false
theorem isTabAt_ok {h : Hs} {i : Nat} {p : Str × Option Str} {q : Str} (e : isTabAt h i p q = true) : h[i]? = some (.tab p q) := by
  unfold isTabAt at e
  split at e
  · rename_i p' q' e1
    rw [Bool.and_eq_true] at e
    rw [e1, of_decide_eq_true e.1, of_decide_eq_true e.2]
  · cases e
/-- x = lambda ..; the statement that hands it on; the rest -/
def sLam (ti : Nat) (p : Str × Option Str) (t : LamT) (i : Nat) (sm : Nat → SM) (mr : SM) : SM := fun ρ h => if isTabAt h ti p t.qual = true then sSeq (sm h.length) mr (ρ.set i (some (.loc h.length))) (h ++ [.off]) else none
def sHandA (m1 : EM) (mi : Nat → EM) (F : ON) (m : Nat) : SM := fun ρ h => (m1 ρ h).bind fun r1 => (mi m ρ r1.2).bind fun r2 => (F [r1.1, r2.1] r2.2).bind fun r3 => some (.nx, ρ, r3.2)
def sHandB (mi : Nat → EM) (j : Nat) (m : Nat) : SM := fun ρ h => (mi m ρ h).bind fun r => some (.nx, ρ.set j (some r.1), r.2)
section
variable {X : Cx} {t : LamT} {P : Addr} {c : Addr} {pos px : Pos}
theorem pe_lamF (TB : TabB X.base X.mg c P) (hcode : X.env.code = .ref c) (hq : t.qual = X.env.qual ++ "<lambda>") (hdef : defaultsOf t.params X.env = ([], [])) (hfree : ∀ y ∈ t.scope.names, y.2 = .free → X.env.scope.names.lookup y.1 = some .cell ∨ X.env.scope.names.lookup y.1 = some .free) :
    PE X (.Lambda t.params t.body t.scope pos) (tLamF P t (cloFrom X.env.cells t.scope.names [])) := by
  refine ⟨fun pins s σ H Q I ⟨hT, k⟩ => ?_⟩
  rw [hq] at hT
  refine lam_makeF I TB hcode hT hdef (fun y hy e => (hfree y hy e).elim (fun z => I.ok.has _ (.inl z)) fun z => I.ok.has _ (.inr z)) fun f c' pm ctv H1 s' I1 eN eT hT1 hf h1 h2 => ?_
  refine ⟨.ref f, H1, I1, rfl, k f c' pm ctv H1 eN eT (by rw [hq]; exact hT1) hf ?_ (by rw [hq]; exact h2)⟩
  rw [h1]
  unfold LamT.obj
  rw [hq]
theorem pe_inC {n : Nat} {g : Str} {F : ON} {e : Expr} {es : List Expr} {mas : AM} {js : List Nat} {gp : Pos} {cl : List (Str × Addr)} (Fo : FOk X.prog X.w X.K X.mg X.base X.A g n F) (hg : Gl X g) (cp : X.Ok → NdefX.Caps X cl t.fr js) (hfn : ∀ x, X.fn x = true) (ha : PA X (e :: es) (tAm X.K mas))
    (hdb : (g == ("__debug__" : Str)) = false) (he : starEach (e :: es) X.env = (false, eval e X.env) :: starEach es X.env) (hpl : (backTo pos (starEach es X.env)).any (·.1) = false) :
    PE X (.Call (.Name g gp) (e :: es) [] pos) (tKm X.K t cl (inC n F t js mas)) := by
  refine ⟨fun pins s σ H Q I ⟨m, μ, ρ, h, d, h', kn, R, N, em, kk⟩ => ?_⟩
  obtain ⟨k, f, fd, ps, dv, dvs, sp, G, hr, hm, hk, hb, hd', hsp⟩ := Fo.ex
  obtain ⟨⟨ds, h1⟩, e1, e2⟩ := bind_some em
  split at e2
  · rename_i hl
    split at e2
    · rename_i hoff
      obtain ⟨ws, hw, e3⟩ := bind_some e2
      obtain ⟨⟨d0, h2⟩, e4, e5⟩ := bind_some e3
      split at e5
      · rename_i t' ws' hm2
        cases e5
        refine wpAny_Call_Name_kw (ld_glob I hg hm ?_ hdb)
        refine PySem.W.callWith_K (h₀ := X.base) I.ok.mod.kin hk (thn (ha.run pos pins s σ H (fun vs H2 => ∃ μ1, Rel X.K μ1 h1 H2 ∧ Stp X.K μ H μ1 H2 ∧ RVs X.K H2 μ1 ds vs) I ⟨μ, ρ, h, ds, h1, R, N, e1, fun μ1 H1 vs R1 S1 rs => ⟨μ1, R1, S1, rs⟩⟩) fun us s2 ⟨vs, H2, I2, r, μ1, R1, S1, rs⟩ => ⟨I2.kIn, ?_⟩) he hpl
        obtain ⟨f', c', pm, ctv, k1, k2, k3⟩ := kn.mono S1
        exact run_fnC G hr hb hd' hsp I2 hfn (cp I2.ok) R1 (N.mono S1) k1 k2 k3 hoff hw rs r hl e4 hm2 fun μ2 H3 v R2 S2 rv => kk μ2 H3 v R2 (S1.trans S2) rv
      · cases e5
    · cases e2
  · cases e2
theorem ps_handA {g : Str} {F : ON} {e1 e2 : Expr} {m1 : EM} {mi : Nat → EM} {gp pc : Pos} {cl : List (Str × Addr)} (Fo : FOk X.prog X.w X.K X.mg X.base X.A g 2 F) (hg : Gl X g) (h1 : PE X e1 (tEm X.K m1)) (h2 : PE X e2 (tKm X.K t cl mi)) (hdb : (g == ("__debug__" : Str)) = false)
    (he1 : starEach [e1, e2] X.env = (false, eval e1 X.env) :: starEach [e2] X.env) (he2 : starEach [e2] X.env = (false, eval e2 X.env) :: starEach [] X.env) (hpl : (backTo pc (starEach [e2] X.env)).any (·.1) = false) (hs : swapsWith (.Call (.Name g gp) [e1, e2] [] pc) none pos.line X.env = pure false) :
    PS X (.Expr (.Call (.Name g gp) [e1, e2] [] pc) pos) (tKS X.K t cl (sHandA m1 mi F)) := by
  obtain ⟨k, f, fd, ps, dv, dvs, sp, G, hr, hm, hk, hb, hd', hsp⟩ := Fo.ex
  refine (ps_expr (pe_call (p := gp) G hr hg hm hk hb hd' pass0 (pa_cons h1 (pa_cons h2 pa_nil he2) he1) hdb he1 hpl) hs).imp fun D σ H ⟨m, μ, ρ, h, fl, ρ', h', kn, R, N, em, kk⟩ => ?_
  obtain ⟨⟨x, ha⟩, ea, em⟩ := bind_some em
  obtain ⟨⟨y, hb⟩, eb, em⟩ := bind_some em
  obtain ⟨⟨z, hc⟩, ec, em⟩ := bind_some em
  cases em
  exact ⟨μ, ρ, h, x, ha, R, N, ea, fun μ1 H1 vx R1 S1 rx => ⟨m, μ1, ρ, ha, y, hb, kn.mono S1, R1, N.mono S1, eb, fun μ2 H2 vy R2 S2 ry => hsp [vx, vy] H2 _ rfl
    ⟨μ2, hb, [x, y], z, hc, R2, .cons (rx.mono S2) (.cons ry .nil), ec, fun μ3 H3 v R3 S3 rv => kk μ3 H3 R3 (S1.trans (S2.trans S3)) σ (N.mono (S1.trans (S2.trans S3)))⟩⟩⟩
theorem ps_handB {e2 : Expr} {mi : Nat → EM} {j : Nat} {y : Str} {cl : List (Str × Addr)} (h2 : PE X e2 (tKm X.K t cl mi)) (hN : X.N.Nodup) (hi : X.N[j]? = some y) (hx : Loc X.env.scope y) (hs : swapsWith e2 (some (.Name y px)) pos.line X.env = pure false) (hf : X.fn y = true ∨ X.env.scope.names.lookup y = some .local) :
    PS X (.Assign [.Name y px] e2 pos) (tKS X.K t cl (sHandB mi j)) := by
  refine (ps_set hN hi hx h2 hs hf).imp fun D σ H ⟨m, μ, ρ, h, fl, ρ', h', kn, R, N, em, kk⟩ => ?_
  obtain ⟨⟨x, ha⟩, ea, em⟩ := bind_some em
  cases em
  exact ⟨m, μ, ρ, h, x, ha, kn, R, N, ea, fun μ1 H1 vx R1 S1 rx => kk μ1 H1 R1 S1 _ ((N.mono S1).set rx j)⟩
theorem pss_lam {i ti : Nat} {x : Str} {pl : Pos} {p : Str × Option Str} {st2 : Stmt} {rest : List Stmt} {sm : Nat → SM} {mr : SM} (TB : TabB X.base X.mg c (He.cT X.K p).2) (hcode : X.env.code = .ref c) (hq : t.qual = X.env.qual ++ "<lambda>") (hdef : defaultsOf t.params X.env = ([], []))
    (hfree : ∀ y ∈ t.scope.names, y.2 = .free → X.env.scope.names.lookup y.1 = some .cell ∨ X.env.scope.names.lookup y.1 = some .free) (hN : X.N.Nodup) (hi : X.N[i]? = some x) (hx : Loc X.env.scope x) (hf : X.fn x = true ∨ X.env.scope.names.lookup x = some .local)
    (hs : swapsWith (.Lambda t.params t.body t.scope pl) (some (.Name x px)) pos.line X.env = pure false) (h2 : PS X st2 (tKS X.K t (cloFrom X.env.cells t.scope.names []) sm)) (hr : PSs X rest (tSm X.K mr)) :
    PSs X (.Assign [.Name x px] (.Lambda t.params t.body t.scope pl) pos :: st2 :: rest) (tSm X.K (sLam ti p t i sm mr)) := by
  refine (pss_cons (ps_set hN hi hx (pe_lamF TB hcode hq hdef hfree) hs hf) (pss_cons h2 hr)).imp fun D σ H ⟨μ, ρ, h, fl, ρ', h', R, N, em, kk⟩ => ?_
  unfold sLam at em
  split at em
  · rename_i ht
    have ht := isTabAt_ok ht
    obtain ⟨P', hP⟩ : ∃ P', μ[ti]? = some P' := by
      have := (List.getElem?_eq_some_iff.mp ht).1
      exact ⟨μ[ti]'(by rw [R.len]; exact this), List.getElem?_eq_getElem _⟩
    obtain ⟨eP, hT⟩ := R.obj ti P' _ hP ht
    subst eP
    refine ⟨hT, fun f c' pm ctv H1 eN eT hT1 hf0 h1 h2 => ?_⟩
    obtain ⟨R1, S1, rv⟩ := lam_rel R ht hP eN eT hT1 hf0 h1
    unfold sSeq at em
    have kn : Knows t (cloFrom X.env.cells t.scope.names []) h.length (μ ++ [f]) H1 := ⟨f, c', pm, ctv, by
      rw [List.getElem?_append_right (by rw [R.len]; exact Nat.le_refl _), R.len, Nat.sub_self]
      rfl, h1, h2⟩
    cases q : sm h.length (ρ.set i (some (.loc h.length))) (h ++ [.off]) with
    | none => rw [q] at em; cases em
    | some r =>
      obtain ⟨f1, ρ1, h1'⟩ := r
      rw [q] at em
      refine ⟨h.length, μ ++ [f], _, _, f1, ρ1, h1', kn, R1, (N.mono S1).set rv i, q, fun μ2 H2 R2 S2 => ?_⟩
      cases f1 with
      | nx => exact fun σ' N' => ⟨μ2, ρ1, h1', fl, ρ', h', R2, N', em, fun μ3 H3 R3 S3 => kk μ3 H3 R3 (S1.trans (S2.trans S3))⟩
      | bk => cases em; exact kk μ2 H2 R2 (S1.trans S2)
      | ct => cases em; exact kk μ2 H2 R2 (S1.trans S2)
      | rt d => cases em; exact kk μ2 H2 R2 (S1.trans S2)
  · cases em
end
end MP

/-! text MiniB1 -/
set_option Elab.async false
set_option linter.all false
set_option maxRecDepth 100000
set_option maxHeartbeats 4000000
/-! dict comprehensions with tuple keys. -/
namespace L2
open PySem PySem.Spec PyProof.Rows
/-- d[k] = v by a comprehension, k a tuple -/
theorem d_dictSetT {X : Cx} {pins : List (Addr × Obj)} {σ : L2.St} {H : Hp} {s : Shared} {E : Value → Shared → Prop} {D b : Addr} {kvs : List (List Key × V)} {k : List Key} {v : V} {r : Value} {Q : Unit → Shared → Prop} (hu : X.A.units < cLine) (I : Inv X pins σ H s) (hD : H D = some (.dT kvs)) (hz : kvs.length < sizeLine)
    (hb : H b = some (.tup (k.map kV))) (rv : RelV v r) (h : ∀ s', Inv X pins σ (upd H D (.dT (putK kvs k v))) s' → Q () s') : wpAny (model X.prog X.w) X.A (dictSet D (.ref b) r) Q E s := by
  obtain ⟨z, hd, xs, rel, dd⟩ := dt_of I.hok hD
  have hzv : xs.length ≤ sizeLine := by rw [← Paired.length rel]; exact z
  have hl : (putK kvs k v).length ≤ sizeLine := by have := length_putK kvs k v; omega
  refine wpAny_dictSet_heap (hsz := hzv) hu (key_of I.hok hb) dd fun h' dd' hs => h _ ?_
  obtain ⟨q, es, ep, hq, h2, h3, h4, _, h5⟩ := dd'
  refine d_write I (by rw [hD]; exact True.intro) hs ⟨q, hq⟩ ⟨hl, hd, _, (rel.put k hb rv).keeps fun c ys ec => ?_, q, es, ep, hq, h2, h3, h4, h5⟩
  rw [upd_ne (ne_of ec hD (fun z => nomatch z))]
  exact ec
section
variable {X : Cx}
/-- {k: v for target in iter if ..}, keys tuples of ints and texts: D the new dict -/
def tDcT (wi : TI) (g : TG) (tt : TT) (tk tv : TE) (vs : List Nat) : TE := fun σ H Q => wi σ H fun J H1 => ∀ D, H1 D = none → ∃ W : Nat → Nat → Hp → Prop, (∃ m, W 0 m (upd H1 D (.dT []))) ∧ ∀ i m H, W i m H →
  (J.stop i H ∧ Q (.ref D) H) ∨ (J.go i H ∧ ∃ Nx : Hp → Prop, (∀ H', Nx H' → ∃ m', m' < m ∧ W (i + 1) m' H') ∧ ∀ x H', J.yld i H x H' → g x (wipe σ vs) H' fun σ2 H2 => wipe σ2 vs = wipe σ vs ∧ tt σ2 H2 fun b H3 =>
    if b = true then tk σ2 H3 fun y H4 => tv σ2 H4 fun z H5 => ∃ kvs k b, y = .ref b ∧ H5 b = some (.tup (k.map kV)) ∧ H5 D = some (.dT kvs) ∧ kvs.length < sizeLine ∧ Nx (upd H5 D (.dT (putK kvs k z))) else Nx H3)
theorem dct_core {pins : List (Addr × Obj)} {s : Shared} {σ : St} {H : Hp} {Q : VK} {kx vx tg iter : Expr} {ifs : List Expr} {scope : Scope} {own : List (Str × Nat)} {pos pos' : Pos} {wi : TI} {g : TG} {tt : TT} {tk tv : TE} {use : Option (Value → Sem Unit)} {Qf : Value → Shared → Prop}
    (hu : X.A.units + 1 < cLine) (hc : X.calm = true) (hN : X.N.Nodup) (I : Inv X pins σ H s) (hi : PI X tg iter wi) (ok : BlkOk X.N X.env.scope scope own)
    (hg : ∀ (s : Shared) (H : Hp) (C : Addr) (cl : List (Str × Addr)) (fp : List Addr), PG (X.blk s H scope (compEnvC scope cl C X.env) fp) tg g) (ht : ∀ (s : Shared) (H : Hp) (C : Addr) (cl : List (Str × Addr)) (fp : List Addr), PTs (X.blk s H scope (compEnvC scope cl C X.env) fp) ifs tt)
    (hk : ∀ (s : Shared) (H : Hp) (C : Addr) (cl : List (Str × Addr)) (fp : List Addr), PE (X.blk s H scope (compEnvC scope cl C X.env) fp) kx tk)
    (he : ∀ (s : Shared) (H : Hp) (C : Addr) (cl : List (Str × Addr)) (fp : List Addr), PE (X.blk s H scope (compEnvC scope cl C X.env) fp) vx tv) (hs : ∀ x, foldedSetIterable iter X.env x = pure x)
    (h : tDcT wi g tt tk tv (own.map (·.2)) σ H Q)
    (hRR : ∀ D C s' m H', Inv X pins σ H' s' → Q (.ref D) H' → s'.heap.Ns C m → FpOk X pins H' C → compPost (model X.prog X.w) X.A X.xe use Qf (.ref D) C (.ok .next) s') :
    wpAny (model X.prog X.w) X.A (comprehension (.DictComp kx vx [⟨tg, iter, ifs, 0⟩] scope pos) scope X.env pos' newDict false (eval iter X.env) use) Qf X.xe s := by
  have hfree : ∀ y ∈ scope.names, y.2 = .free → ∃ c, X.env.cells.lookup y.1 = some c := fun y hy e => by
    rcases ok.free y hy e with k | k
    · exact I.ok.has _ (.inl k)
    · exact I.ok.has _ (.inr k)
  refine wpAny_comprehension_free (use := use) rfl hs (closure_ok hfree) ok.kind (fun y hy e => by rw [ok.uniq y hy, e])
    (thn (hi.run pins s σ H _ I h) fun xv s1 hx => thn hx fun itv s2 h2 => ?_)
  obtain ⟨it, fp, tn, J, H2, e, I2, T, st2, f2, q⟩ := h2
  subst e
  refine wpAny_newObj_type (newEnv_comp ?_)
  generalize hD : s2.heap.objs.size = D
  have hDn : H2 D = none := I2.hok.fresh (Nat.le_of_eq hD)
  obtain ⟨W, ⟨m0, w0⟩, turn⟩ := q D hDn
  -- the new list
  generalize hs3 : ({ s2 with heap := s2.heap.push { cls := .type "dict", data := .dict #[] } } : Shared) = s3
  have I3 : Inv X pins σ (upd H2 D (.dT [])) s3 := by
    rw [← hs3]
    refine I2.laid (t' := s2.toks) (fun b o e => Heap.get?_push_of_some _ e) (Nat.le_of_eq hD) ?_
    rw [← hD]
    exact dt_empty s2.heap I2.big
  have h3 : s3.heap = s2.heap.push { cls := .type "dict", data := .dict #[] } := by rw [← hs3]
  have sz : ∀ b ∈ fp, b < s2.heap.objs.size := fun b hb => by
    obtain ⟨o, e, _⟩ := T.obj _ _ st2 b hb
    exact Heap.lt_size e
  have f3 : ∀ b ∈ fp, FpOk X pins (upd H2 D (.dT [])) b ∧ b < s3.heap.objs.size := fun b hb => by
    have hlt := sz b hb
    refine ⟨⟨?_, (f2 b hb).2⟩, by rw [h3, Heap.size_push]; exact Nat.lt_succ_of_lt hlt⟩
    rw [upd_ne (by rw [← hD]; exact Nat.ne_of_lt hlt)]
    exact (f2 b hb).1
  have st3 : tn 0 s3.heap := T.keep _ _ _ st2 fun b _ o e => by rw [h3]; exact Heap.get?_push_of_some _ e
  have I4 := block_start I3 ok hN f3
  have pg := hg s3 (upd H2 D (.dT [])) s3.heap.objs.size (cellsFrom (s3.heap.objs.size + 1) scope.names (cloFrom X.env.cells scope.names [])) fp
  have pt := ht s3 (upd H2 D (.dT [])) s3.heap.objs.size (cellsFrom (s3.heap.objs.size + 1) scope.names (cloFrom X.env.cells scope.names [])) fp
  have pk := hk s3 (upd H2 D (.dT [])) s3.heap.objs.size (cellsFrom (s3.heap.objs.size + 1) scope.names (cloFrom X.env.cells scope.names [])) fp
  have pe := he s3 (upd H2 D (.dT [])) s3.heap.objs.size (cellsFrom (s3.heap.objs.size + 1) scope.names (cloFrom X.env.cells scope.names [])) fp
  show codeAny _ _ (.compStart (.DictComp kx vx [⟨tg, iter, ifs, 0⟩] scope pos) 0 (.ref it) (.ref D) (compEnvC scope (cellsFrom (s3.heap.objs.size + 1) scope.names (cloFrom X.env.cells scope.names [])) s3.heap.objs.size X.env)) (compPost (model X.prog X.w) X.A X.xe use Qf (.ref D) s3.heap.objs.size) { s3 with heap := pushCells (s3.heap.push { cls := .type "dict", data := .dict #[] }) scope.names }
  have nfp : ∀ b ∈ fp, (upd H2 D (.dT [])) b = none := fun b hb => (f3 b hb).1.1
  generalize hce : compEnvC scope (cellsFrom (s3.heap.objs.size + 1) scope.names (cloFrom X.env.cells scope.names [])) s3.heap.objs.size X.env = ce at I4 pg pt pk pe ⊢
  have cL : ce.locals = s3.heap.objs.size := by subst hce; rfl
  generalize hH3 : upd H2 D (.dT []) = H3 at I3 I4 pg pt pk pe w0 nfp f3
  generalize hs4 : ({ s3 with heap := pushCells (s3.heap.push { cls := .type "dict", data := .dict #[] }) scope.names } : Shared) = s4 at I4 ⊢
  have st4 : tn 0 s4.heap := T.keep _ _ _ st3 fun b _ o e => by rw [← hs4]; exact pushCells_keeps _ _ _ _ (Heap.get?_push_of_some _ e)
  have stat : ∀ {σ' : St} {H' : Hp} {s' : Shared}, Inv (X.blk s3 H3 scope ce fp) [] σ' H' s' → (∀ b ∈ fp, H' b = none) → ∀ b ∈ fp, FpOk (X.blk s3 H3 scope ce fp) [] H' b := fun {σ' H' s'} I' hn b hb =>
    ⟨hn b hb, (I'.ok.exf b hb).1, I'.ok.exfs b hb, .inl hb, fun x c e => (I'.ok.exf b hb).2 x c e, fun p hp => absurd (show p ∈ ([] : List (Addr × Obj)) ++ [] from hp) (by simp)⟩
  have loop : codeAny (model X.prog X.w) X.A (.compLoop (.DictComp kx vx [⟨tg, iter, ifs, 0⟩] scope pos) 0 (.ref it) (.ref D) ce) (compPost (model X.prog X.w) X.A X.xe use Qf (.ref D) s3.heap.objs.size) s4 := by
    refine compLoop_anyD (fun n s' => ∃ i H', Inv (X.blk s3 H3 scope ce fp) [] (wipe σ (own.map (·.2))) H' s' ∧ tn i s'.heap ∧ (∀ b ∈ fp, H' b = none) ∧ W i n H') ?_ m0 ⟨0, H3, I4, st4, nfp, w0⟩
    rintro n s5 ⟨i, H5, I5, st5, n5, w5⟩
    rcases turn i n H5 w5 with ⟨stop, qq⟩ | ⟨go, Nx, hNx, step⟩
    · have td := T.done (X.blk s3 H3 scope ce fp) rfl rfl rfl hc i [] s5 _ H5 (fun _ _ => False) I5 (stat I5 n5) st5 stop
      refine thnF td fun r s6 ⟨hr, I6⟩ => ?_
      subst hr
      -- back in the def's context
      have I7 : Inv X pins σ H5 s6 := I3.call' (ch := fp) I6.os I6.base I6.hok I6.bare fun b hb => ⟨(f3 b hb).1.2.2.2.1, (f3 b hb).1.2.1, (f3 b hb).1.2.2.2.2.1, (f3 b hb).1.2.2.2.2.2⟩
      have nC : H5 s3.heap.objs.size = none := by
        have z : H5 ce.locals = none := I6.free
        rw [cL] at z
        exact z
      obtain ⟨m, hn, _⟩ := I6.loc
      have hn : s6.heap.Ns ce.locals m := hn
      rw [cL] at hn
      exact hRR D s3.heap.objs.size s6 m H5 I7 qq hn (I3.fpOk (Nat.le_refl _) nC)
    · have ti := T.item (X.blk s3 H3 scope ce fp) rfl rfl rfl hc i [] s5 _ H5 (fun _ _ => False) I5 (stat I5 n5) st5 go
      refine thnF ti fun r s6 ⟨u, hr, h6⟩ => ?_
      subst hr
      refine thnF h6 fun _ s7 ⟨x, H7, I7, r7, y7, st7, n7⟩ => ?_
      have I7' := I7.pinned (stat I7 n7) (T.obj _ _ st7)
      refine thnF (pg.run _ s7 _ H7 x u _ I7' r7 (step x H7 y7)) fun _ s8 ⟨σ8, H8, I8, hw8, q8⟩ => ?_
      refine thnF (pt.run _ s8 σ8 H8 _ I8 q8) fun b s9 ⟨H9, I9, q9⟩ => ?_
      -- the turn's end
      have fin : ∀ {s' : Shared} {H' : Hp}, Inv (X.blk s3 H3 scope ce fp) ([] ++ pinsAt fp s7.heap) σ8 H' s' → Nx H' → ∃ m, m < n ∧ ∃ i H', Inv (X.blk s3 H3 scope ce fp) [] (wipe σ (own.map (·.2))) H' s' ∧ tn i s'.heap ∧ (∀ b ∈ fp, H' b = none) ∧ W i m H' := fun {s' H'} I' nx => by
        obtain ⟨m', hm, w'⟩ := hNx H' nx
        have pin' : ∀ b ∈ fp, ∀ o, s7.heap.get? b = some o → s'.heap.get? b = some o ∧ H' b = none := fun b hb o e =>
          let z := I'.pin (b, o) (List.mem_append_right _ (List.mem_append_right _ (mem_pinsAt hb e)))
          ⟨z.1, z.2.1⟩
        have hl : (wipe σ (own.map (·.2))).length = σ8.length := by rw [← hw8, wipe_length]
        refine ⟨m', hm, i + 1, H', (I'.unpinned (pins := [])).weak hl (fun j v e => ?_), T.keep _ _ _ st7 fun b hb o e => (pin' b hb o e).1, fun b hb => ?_, w'⟩
        · rw [← hw8] at e
          exact (wipe_some e).1
        · obtain ⟨o, e, _⟩ := T.obj _ _ st7 b hb
          exact (pin' b hb o e).2
      cases b with
      | false =>
        simp only [Bool.false_eq_true, if_false] at q9 ⊢
        exact fin I9 q9
      | true =>
        simp only [if_true] at q9 ⊢
        refine thnF (pk.run _ s9 σ8 H9 _ I9 q9) fun z s10 ⟨yk, H10, I10, r10, q10⟩ => ?_
        refine thnF (pe.run _ s10 σ8 H10 _ I10 q10) fun z2 s11 ⟨yv, H11, I11, r11, kvs, k, b, ek, hb11, hD11, hz11, nx⟩ => ?_
        subst ek
        obtain rfl : z = Value.ref b := r10
        exact d_dictSetT (X := X.blk s3 H3 scope ce fp) (by show X.A.units < cLine; omega) I11 hD11 hz11 hb11 r11 fun s12 I12 => fin I12 nx
  exact codeAny_compStart_dict loop (T.self X.A 0 _ _ _ st4 loop)
/-- as a value -/
theorem pe_dct {kx vx tg iter : Expr} {ifs : List Expr} {scope : Scope} {own : List (Str × Nat)} {pos : Pos} {wi : TI} {g : TG} {tt : TT} {tk tv : TE} (hu : X.A.units + 1 < cLine) (hc : X.calm = true) (hN : X.N.Nodup) (hi : PI X tg iter wi) (ok : BlkOk X.N X.env.scope scope own)
    (hg : ∀ (s : Shared) (H : Hp) (C : Addr) (cl : List (Str × Addr)) (fp : List Addr), PG (X.blk s H scope (compEnvC scope cl C X.env) fp) tg g) (ht : ∀ (s : Shared) (H : Hp) (C : Addr) (cl : List (Str × Addr)) (fp : List Addr), PTs (X.blk s H scope (compEnvC scope cl C X.env) fp) ifs tt)
    (hk : ∀ (s : Shared) (H : Hp) (C : Addr) (cl : List (Str × Addr)) (fp : List Addr), PE (X.blk s H scope (compEnvC scope cl C X.env) fp) kx tk)
    (he : ∀ (s : Shared) (H : Hp) (C : Addr) (cl : List (Str × Addr)) (fp : List Addr), PE (X.blk s H scope (compEnvC scope cl C X.env) fp) vx tv) (hs : ∀ x, foldedSetIterable iter X.env x = pure x := by intro _; rfl) :
    PE X (.DictComp kx vx [⟨tg, iter, ifs, 0⟩] scope pos) (tDcT wi g tt tk tv (own.map (·.2))) := by
  refine ⟨fun pins s σ H Q I h => ?_⟩
  rw [arm_eval_DictComp]
  refine dct_core hu hc hN I hi ok hg ht hk he hs h fun D C s' m H' I' q hn f => ⟨m, hn, fun h'' sb => ?_⟩
  obtain ⟨f0, f1, f2, f3, f4, f5⟩ := f
  exact ⟨.ref D, H', I'.turned (t' := s'.toks) (fun b o hb e => (sb.2 b hb).trans e) f0 f1 f3 f4 f5, rfl, q⟩
end
end L2

/-! text MiniB2 -/
set_option Elab.async false
set_option linter.all false
set_option maxRecDepth 100000
set_option maxHeartbeats 4000000
/-! dicts. -/
namespace MP
open PySem PySem.Spec PyProof.Rows
open L2 hiding St

/-! ### keys -/
def keyD : Key → D
  | .inl i => .int i
  | .inr x => .str x
def keyOf : D → Option Key
  | .int i => some (.inl i)
  | .str x => some (.inr x)
  | _ => none
def keysOf : List D → Option (List Key)
  | [] => some []
  | d :: r => match keyOf d, keysOf r with
    | some k, some ks => some (k :: ks)
    | _, _ => none
section
variable {K : PySem.W.Frag} {H : Hp} {μ : List Addr}
theorem keyOf_ok {d : D} {v : V} {k : Key} (e : keyOf d = some k) (r : RV K H μ d v) : v = kV k := by
  cases r <;> cases e <;> rfl
theorem keysOf_ok : ∀ {ds : List D} {vs : List V} {ks : List Key}, keysOf ds = some ks → RVs K H μ ds vs → vs = ks.map kV
  | [], _, ks, e, .nil => by cases e; rfl
  | d :: r, _, ks, e, .cons q t => by
    unfold keysOf at e
    split at e
    · rename_i k ks' ek er
      cases e
      rw [List.map_cons, keyOf_ok ek q, keysOf_ok er t]
    · cases e
end
section
variable {κ : Type} [DecidableEq κ]
def valD (kvs : List (κ × D)) (k : κ) : Option D := (kvs.find? fun kv => decide (kv.1 = k)).map (·.2)
def putD (kvs : List (κ × D)) (k : κ) (d : D) : List (κ × D) :=
  if (kvs.any fun kv => decide (kv.1 = k)) = true then kvs.map (fun kv => if kv.1 = k then (kv.1, d) else kv) else kvs ++ [(k, d)]
variable {K : PySem.W.Frag} {H : Hp} {μ : List Addr}
theorem RVs.val {k : κ} : ∀ {kvs : List (κ × D)} {vs : List V}, RVs K H μ (kvs.map Prod.snd) vs → (∀ d, valD kvs k = some d → ∃ v, valV ((kvs.map Prod.fst).zip vs) k = some v ∧ RV K H μ d v) ∧ (valD kvs k = none → valV ((kvs.map Prod.fst).zip vs) k = none)
  | [], _, .nil => ⟨fun _ e => (nomatch e), fun _ => rfl⟩
  | (j, x) :: kvs, _, .cons (v := v) (vs := vs) r t => by
    obtain ⟨i1, i2⟩ := RVs.val (k := k) t
    rw [List.map_cons, List.zip_cons_cons]
    by_cases z : j = k
    · refine ⟨fun d e => ?_, fun e => ?_⟩
      · have e2 : valD ((j, x) :: kvs) k = some x := by simp [valD, List.find?_cons, z]
        rw [e2] at e
        cases e
        exact ⟨v, valV_pos z, r⟩
      · have e2 : valD ((j, x) :: kvs) k = some x := by simp [valD, List.find?_cons, z]
        rw [e2] at e
        cases e
    · have e2 : valD ((j, x) :: kvs) k = valD kvs k := by simp [valD, List.find?_cons, z]
      rw [e2, valV_neg z]
      exact ⟨i1, i2⟩
theorem RVs.anyk {k : κ} : ∀ {kvs : List (κ × D)} {vs : List V}, RVs K H μ (kvs.map Prod.snd) vs → (((kvs.map Prod.fst).zip vs).any fun kv => decide (kv.1 = k)) = kvs.any fun kv => decide (kv.1 = k)
  | [], _, .nil => rfl
  | (j, x) :: kvs, _, .cons r t => by rw [List.map_cons, List.zip_cons_cons, List.any_cons, List.any_cons, RVs.anyk t]
theorem RVs.mapk {k : κ} {d : D} {v : V} (rv : RV K H μ d v) : ∀ {kvs : List (κ × D)} {vs : List V}, RVs K H μ (kvs.map Prod.snd) vs → ∃ ws, ((kvs.map Prod.fst).zip vs).map (fun kv => if kv.1 = k then (kv.1, v) else kv) = ((kvs.map fun kv => if kv.1 = k then (kv.1, d) else kv).map Prod.fst).zip ws ∧ RVs K H μ ((kvs.map fun kv => if kv.1 = k then (kv.1, d) else kv).map Prod.snd) ws
  | [], _, .nil => ⟨[], rfl, .nil⟩
  | (j, x) :: kvs, _, .cons (v := u) r t => by
    obtain ⟨ws, e, q⟩ := RVs.mapk (k := k) rv t
    rw [List.map_cons, List.zip_cons_cons, List.map_cons, List.map_cons, e]
    by_cases z : j = k
    · rw [if_pos z, if_pos z]
      exact ⟨v :: ws, rfl, .cons rv q⟩
    · rw [if_neg z, if_neg z]
      exact ⟨u :: ws, rfl, .cons r q⟩
theorem RVs.put {k : κ} {d : D} {v : V} {kvs : List (κ × D)} {vs : List V} (rv : RV K H μ d v) (r : RVs K H μ (kvs.map Prod.snd) vs) : ∃ ws, putK ((kvs.map Prod.fst).zip vs) k v = ((putD kvs k d).map Prod.fst).zip ws ∧ RVs K H μ ((putD kvs k d).map Prod.snd) ws := by
  unfold L2.putK putD
  rw [r.anyk]
  by_cases z : (kvs.any fun kv => decide (kv.1 = k)) = true
  · rw [if_pos z, if_pos z]
    exact RVs.mapk rv r
  · rw [if_neg z, if_neg z]
    refine ⟨vs ++ [v], ?_, ?_⟩
    · rw [List.map_append, List.zip_append (by rw [List.length_map]; have := r.length; rw [List.length_map] at this; exact this)]
      rfl
    · rw [List.map_append]
      exact r.append (.cons rv .nil)
end

/-! ### places -/
def dkAt (h : Hs) : D → Option (Nat × List (Key × D))
  | .loc n => match h[n]? with
    | some (.dK kvs) => some (n, kvs)
    | _ => none
  | _ => none
def dtAt (h : Hs) : D → Option (Nat × List (List Key × D))
  | .loc n => match h[n]? with
    | some (.dT kvs) => some (n, kvs)
    | _ => none
  | _ => none
section
variable {K : PySem.W.Frag} {H : Hp} {μ : List Addr} {h : Hs}
theorem dkAt_ok {d : D} {v : V} {n : Nat} {kvs : List (Key × D)} (R : Rel K μ h H) (r : RV K H μ d v) (e : dkAt h d = some (n, kvs)) :
    ∃ a vs, d = .loc n ∧ v = .ref a ∧ μ[n]? = some a ∧ h[n]? = some (.dK kvs) ∧ H a = some (.dK ((kvs.map Prod.fst).zip vs)) ∧ RVs K H μ (kvs.map Prod.snd) vs := by
  unfold dkAt at e
  split at e
  · split at e
    · rename_i en
      cases e
      obtain ⟨a, rfl, ha⟩ := r.loc_at
      obtain ⟨vs, e1, rr⟩ := R.obj _ _ _ ha en
      exact ⟨a, vs, rfl, rfl, ha, en, e1, rr⟩
    · cases e
  · cases e
theorem dtAt_ok {d : D} {v : V} {n : Nat} {kvs : List (List Key × D)} (R : Rel K μ h H) (r : RV K H μ d v) (e : dtAt h d = some (n, kvs)) :
    ∃ a vs, d = .loc n ∧ v = .ref a ∧ μ[n]? = some a ∧ h[n]? = some (.dT kvs) ∧ H a = some (.dT ((kvs.map Prod.fst).zip vs)) ∧ RVs K H μ (kvs.map Prod.snd) vs := by
  unfold dtAt at e
  split at e
  · split at e
    · rename_i en
      cases e
      obtain ⟨a, rfl, ha⟩ := r.loc_at
      obtain ⟨vs, e1, rr⟩ := R.obj _ _ _ ha en
      exact ⟨a, vs, rfl, rfl, ha, en, e1, rr⟩
    · cases e
  · cases e
theorem dk_write {n : Nat} {a : Addr} {kvs : List (Key × D)} {vs : List V} {k : Key} {d : D} {v : V} (R : Rel K μ h H) (hn : h[n]? = some (.dK kvs)) (ha : μ[n]? = some a) (rr : RVs K H μ (kvs.map Prod.snd) vs) (rv : RV K H μ d v) :
    Rel K μ (h.set n (.dK (putD kvs k d))) (upd H a (.dK (putK ((kvs.map Prod.fst).zip vs) k v))) ∧ Stp K μ H μ (upd H a (.dK (putK ((kvs.map Prod.fst).zip vs) k v))) := by
  obtain ⟨ws, ew, rw_⟩ := rr.put (k := k) rv
  rw [ew]
  exact R.write (u' := .dK _) (o' := .dK (putD kvs k d)) hn rfl ha rfl fun u e m => ⟨ws, upd_same, rw_.mono (Stp.upd e m)⟩
theorem dt_write {n : Nat} {a : Addr} {kvs : List (List Key × D)} {vs : List V} {k : List Key} {d : D} {v : V} (R : Rel K μ h H) (hn : h[n]? = some (.dT kvs)) (ha : μ[n]? = some a) (rr : RVs K H μ (kvs.map Prod.snd) vs) (rv : RV K H μ d v) :
    Rel K μ (h.set n (.dT (putD kvs k d))) (upd H a (.dT (putK ((kvs.map Prod.fst).zip vs) k v))) ∧ Stp K μ H μ (upd H a (.dT (putK ((kvs.map Prod.fst).zip vs) k v))) := by
  obtain ⟨ws, ew, rw_⟩ := rr.put (k := k) rv
  rw [ew]
  exact R.write (u' := .dT _) (o' := .dT (putD kvs k d)) hn rfl ha rfl fun u e m => ⟨ws, upd_same, rw_.mono (Stp.upd e m)⟩
end
theorem zip_lenK {α : Type} {xs : List (α × D)} {K : PySem.W.Frag} {H : Hp} {μ : List Addr} {vs : List V} (r : RVs K H μ (xs.map Prod.snd) vs) : ((xs.map Prod.fst).zip vs).length = xs.length := zip_len r

/-! ### d[k], k in d -/
def ixD : O2 := fun x y h => match dkAt h x with
  | some (_, kvs) => (keyOf y).bind fun k => (valD kvs k).map fun d => (d, h)
  | none => ixO x y h
def inDk : O2 := fun x y h => match dkAt h y with
  | some (_, kvs) => (keyOf x).map fun k => (.bl (valD kvs k).isSome, h)
  | none => inO x y h
def notInDk : O2 := fun x y h => match dkAt h y with
  | some (_, kvs) => (keyOf x).map fun k => (.bl (!(valD kvs k).isSome), h)
  | none => notInO x y h
section
variable {X : Cx} {a b : Expr} {ma mb : EM} {pos : Pos}
theorem val_isSome {K : PySem.W.Frag} {H : Hp} {μ : List Addr} {κ : Type} [DecidableEq κ] {kvs : List (κ × D)} {vs : List V} (r : RVs K H μ (kvs.map Prod.snd) vs) (k : κ) : (valV ((kvs.map Prod.fst).zip vs) k).isSome = (valD kvs k).isSome := by
  obtain ⟨i1, i2⟩ := r.val (k := k)
  cases q : valD kvs k with
  | none => rw [i2 q]; rfl
  | some d => obtain ⟨v, e, _⟩ := i1 d q; rw [e]; rfl
theorem pe_ixD (hu : X.A.units + 1 < cLine) (ha : PE X a (tEm X.K ma)) (hb : PE X b (tEm X.K mb)) (hs : PlainIx b) : PE X (.Subscript a b pos) (tEm X.K (mOp2 ixD ma mb)) :=
  ((pe_ix2 ha hb hs).or (pe_dget hu ha hb hs)).imp fun σ H Q ⟨μ, ρ, h, d, h', R, N, e, k⟩ => by
    obtain ⟨⟨x, h1⟩, e1, e⟩ := bind_some e
    obtain ⟨⟨y, h2⟩, e2, e⟩ := bind_some e
    unfold ixD at e
    dsimp only at e
    split at e
    · rename_i n kvs ed
      right
      obtain ⟨ky, ek, e⟩ := bind_some e
      cases ev : valD kvs ky with
      | none => rw [ev] at e; cases e
      | some d' =>
        rw [ev] at e
        cases e
        refine ⟨μ, ρ, h, x, h1, R, N, e1, fun μ1 H1 vx R1 S1 rx => ⟨μ1, ρ, h1, y, h', R1, N.mono S1, e2, fun μ2 H2 vy R2 S2 ry => ?_⟩⟩
        obtain ⟨p, vs, rfl, rfl, ha, hn, e3, rr⟩ := dkAt_ok R2 (rx.mono S2) ed
        obtain ⟨v, e4, rv⟩ := (rr.val (k := ky)).1 _ ev
        rw [keyOf_ok ek ry]
        exact ⟨p, v, rfl, by have := DGet.k (k := ky) e3; rw [e4] at this; exact this, k μ2 H2 v R2 (S1.trans S2) rv⟩
    · left
      refine ⟨μ, ρ, h, d, h', R, N, ?_, k⟩
      unfold mOp2
      rw [e1]
      show (mb ρ h1).bind _ = _
      rw [e2]
      exact e
def rDIn (neg : Bool) : R2 := fun x y H Q => ∃ a o, y = .ref a ∧ DGet H a x o ∧ Q (.bl (neg != o.isSome)) H
theorem op_din (hu : X.A.units + 1 < cLine) : OpR X (compareOp .In) (rDIn false) := fun pins s σ H x y v u Q I rx ry ⟨a, o, e, g, q⟩ => by
  subst e
  obtain rfl : u = Value.ref a := ry
  exact d_in hu I g rx fun s3 I3 => ⟨.bl o.isSome, H, I3, rfl, by have : (false != o.isSome) = o.isSome := by cases o.isSome <;> rfl
                                                                  rw [this] at q; exact q⟩
theorem op_dnotin (hu : X.A.units + 1 < cLine) : OpR X (compareOp .NotIn) (rDIn true) := fun pins s σ H x y v u Q I rx ry ⟨a, o, e, g, q⟩ => by
  subst e
  obtain rfl : u = Value.ref a := ry
  exact d_notIn hu I g rx fun s3 I3 => ⟨.bl (!o.isSome), H, I3, rfl, by have : (true != o.isSome) = !o.isSome := by cases o.isSome <;> rfl
                                                                        rw [this] at q; exact q⟩
theorem g2_of {g : O2} {x y : V} {H : Hp} {Q : VK} {K : PySem.W.Frag} {μ : List Addr} {h : Hs} {dx dy d : D} {h' : Hs} (R : Rel K μ h H) (r1 : RV K H μ dx x) (r2 : RV K H μ dy y) (e : g dx dy h = some (d, h')) (k : After K μ H d h' Q) : g2 K g x y H Q := ⟨μ, h, dx, dy, d, h', R, r1, r2, e, k⟩
theorem inDk_ok (hu : X.A.units + 65 < cLine) : OpR X (compareOp .In) (g2 X.K inDk) := op_of fun μ h H x y d h' vx vy Q R r1 r2 e k => by
  unfold inDk at e
  split at e
  · rename_i n kvs ed
    cases ek : keyOf x with
    | none => rw [ek] at e; cases e
    | some ky =>
      rw [ek] at e
      cases e
      obtain ⟨p, vs, rfl, rfl, ha, hn, e3, rr⟩ := dkAt_ok R r2 ed
      refine ⟨_, op_din (by omega), p, _, rfl, by rw [keyOf_ok ek r1]; exact DGet.k (k := ky) e3, ?_⟩
      rw [val_isSome rr ky]
      have : (false != (valD kvs ky).isSome) = (valD kvs ky).isSome := by cases (valD kvs ky).isSome <;> rfl
      rw [this]
      exact k.val R (.bl _)
  · exact ⟨_, in_ok hu, g2_of R r1 r2 e k⟩
theorem notInDk_ok (hu : X.A.units + 65 < cLine) : OpR X (compareOp .NotIn) (g2 X.K notInDk) := op_of fun μ h H x y d h' vx vy Q R r1 r2 e k => by
  unfold notInDk at e
  split at e
  · rename_i n kvs ed
    cases ek : keyOf x with
    | none => rw [ek] at e; cases e
    | some ky =>
      rw [ek] at e
      cases e
      obtain ⟨p, vs, rfl, rfl, ha, hn, e3, rr⟩ := dkAt_ok R r2 ed
      refine ⟨_, op_dnotin (by omega), p, _, rfl, by rw [keyOf_ok ek r1]; exact DGet.k (k := ky) e3, ?_⟩
      rw [val_isSome rr ky]
      have : (true != (valD kvs ky).isSome) = !(valD kvs ky).isSome := by cases (valD kvs ky).isSome <;> rfl
      rw [this]
      exact k.val R (.bl _)
  · exact ⟨_, notIn_ok hu, g2_of R r1 r2 e k⟩
end

/-! ### keys that are new tuples -/
abbrev KM := Rho → Hs → Option (List Key × Hs)
def tKey (K : PySem.W.Frag) (mk : KM) : TE := fun σ H Q => ∃ μ ρ h ks h', Rel K μ h H ∧ REnv K H μ ρ σ ∧ mk ρ h = some (ks, h') ∧ ∀ μ' H' b, Rel K μ' h' H' → Stp K μ H μ' H' → H' b = some (.tup (ks.map kV)) → Q (.ref b) H'
def kTup (mas : AM) : KM := fun ρ h => (mas ρ h).bind fun r => if r.1.length ≤ sizeLine then (keysOf r.1).map fun ks => (ks, r.2) else none
def cutD (xs : List D) (lo hi : Option Int) : List D := (xs.drop (HT.sIx xs.length 0 lo)).take (HT.sIx xs.length xs.length hi - HT.sIx xs.length 0 lo)
def kSl (ma : EM) (ml mu : PM) : KM := fun ρ h => (ma ρ h).bind fun r => (ml ρ r.2).bind fun l => (mu ρ l.2).bind fun u => match r.1 with
  | .tup xs => if ¬ (HT.sIx xs.length 0 l.1 = 0 ∧ HT.sIx xs.length xs.length u.1 = xs.length) then (keysOf (cutD xs l.1 u.1)).map fun ks => (ks, u.2) else none
  | _ => none
section
variable {X : Cx} {a : Expr} {es : List Expr} {ma : EM} {mas : AM} {ml mu : PM} {lo hi : Option Expr} {pos p2 : Pos} {n : Nat}
theorem pk_tup {x1 : Nat} (h : PA X es (tAm X.K mas)) : PE X (.Tuple es x1 pos) (tKey X.K (kTup mas)) := (pe_tup h).imp fun σ H Q ⟨μ, ρ, h, ks, h', R, N, e, k⟩ => by
  obtain ⟨⟨ds, h1⟩, e1, e⟩ := bind_some e
  dsimp only at e
  split at e
  · rename_i hl
    cases ek : keysOf ds with
    | none => rw [ek] at e; cases e
    | some ks' =>
      rw [ek] at e
      cases e
      refine ⟨μ, ρ, h, ds, _, R, N, e1, fun μ1 H1 vs R1 S1 rs => ⟨by rw [← rs.length]; exact hl, fun p hp => ?_⟩⟩
      obtain ⟨R2, S2⟩ := R1.allocT (u' := .tup vs) hp
      exact k μ1 _ p R2 (S1.trans S2) (by rw [upd_same, keysOf_ok ek rs])
  · cases e
theorem RVs.cutD {K : PySem.W.Frag} {H : Hp} {μ : List Addr} {ds : List D} {vs : List V} (r : RVs K H μ ds vs) (lo hi : Option Int) : RVs K H μ (cutD ds lo hi) (cutV vs lo hi) := by
  unfold MP.cutD L2.cutV
  rw [r.length]
  exact (r.drop _).take _
theorem pk_sl (ha : PE X a (tEm X.K ma)) (hl : PO X lo (tPm X.K ml)) (hu : PO X hi (tPm X.K mu)) : PE X (.Subscript a (.Slice lo hi none p2) pos) (tKey X.K (kSl ma ml mu)) := (pe_slice sl_tup ha hl hu).imp fun σ H Q ⟨μ, ρ, h, ks, h', R, N, e, k⟩ => by
  obtain ⟨⟨x, h1⟩, e1, e⟩ := bind_some e
  obtain ⟨⟨l, h2⟩, e2, e⟩ := bind_some e
  obtain ⟨⟨u, h3⟩, e3, e⟩ := bind_some e
  cases x with
  | tup xs =>
    dsimp only at e
    split at e
    · rename_i hw
      cases ek : keysOf (cutD xs l u) with
      | none => rw [ek] at e; cases e
      | some ks' =>
        rw [ek] at e
        cases e
        refine ⟨μ, ρ, h, _, h1, R, N, e1, fun μ1 H1 vx R1 S1 rx => ⟨μ1, ρ, h1, l, h2, R1, N.mono S1, e2, fun μ2 H2 R2 S2 => ⟨μ2, ρ, h2, u, _, R2, (N.mono S1).mono S2, e3, fun μ3 H3 R3 S3 => ?_⟩⟩⟩
        cases (rx.mono S2).mono S3 with
        | tup t rs =>
          refine ⟨_, _, rfl, t.sq, by rw [← rs.length]; exact hw, fun p hp => ?_⟩
          obtain ⟨R4, S4⟩ := R3.allocT (u' := .tup _) hp
          exact k μ3 _ p R4 (S1.trans (S2.trans (S3.trans S4))) (by rw [upd_same, keysOf_ok ek (rs.cutD l u)])
    · cases e
  | _ => cases e
end

/-! ### d.get(k, x) -/
def mGet2 (mo mk mx : EM) : EM := fun ρ h => (mo ρ h).bind fun r => match dkAt r.2 r.1 with
  | some _ => (mk ρ r.2).bind fun q => (mx ρ q.2).bind fun w => match dkAt w.2 r.1, keyOf q.1 with
    | some (_, kvs), some k => some ((valD kvs k).getD w.1, w.2)
    | _, _ => none
  | none => none
def mGet2T (mo : EM) (mk : KM) (mx : EM) : EM := fun ρ h => (mo ρ h).bind fun r => match dtAt r.2 r.1 with
  | some _ => (mk ρ r.2).bind fun q => (mx ρ q.2).bind fun w => match dtAt w.2 r.1 with
    | some (_, kvs) => some ((valD kvs q.1).getD w.1, w.2)
    | none => none
  | none => none
section
variable {X : Cx} {o e f : Expr} {apos cpos : Pos} {mo mk mx : EM} {mkt : KM}
theorem val_getD {K : PySem.W.Frag} {H : Hp} {μ : List Addr} {κ : Type} [DecidableEq κ] {kvs : List (κ × D)} {vs : List V} (r : RVs K H μ (kvs.map Prod.snd) vs) (k : κ) {d : D} {v : V} (rv : RV K H μ d v) : RV K H μ ((valD kvs k).getD d) ((valV ((kvs.map Prod.fst).zip vs) k).getD v) := by
  obtain ⟨i1, i2⟩ := r.val (k := k)
  cases q : valD kvs k with
  | none => rw [i2 q]; exact rv
  | some d => obtain ⟨v, e, z⟩ := i1 d q; rw [e]; exact z
theorem pe_get2 (hu : X.A.units + 1 < cLine) (ho : PE X o (tEm X.K mo)) (he : PE X e (tEm X.K mk)) (hf : PE X f (tEm X.K mx)) (m : M2 X o "get" apos e f cpos) : PE X (.Call (.Attribute o "get" apos) [e, f] [] cpos) (tEm X.K (mGet2 mo mk mx)) :=
  (pe_dget2 hu ho he hf m).imp fun σ H Q ⟨μ, ρ, h, d, h', R, N, e, k⟩ => by
    obtain ⟨⟨x, h1⟩, e1, e⟩ := bind_some e
    dsimp only at e
    split at e
    · rename_i p0 ed0
      obtain ⟨⟨y, h2⟩, e2, e⟩ := bind_some e
      obtain ⟨⟨z, h3⟩, e3, e⟩ := bind_some e
      dsimp only at e
      split at e
      · rename_i n kvs ky ed ek
        cases e
        refine ⟨μ, ρ, h, x, h1, R, N, e1, fun μ1 H1 vx R1 S1 rx => ?_⟩
        obtain ⟨n0, kvs0⟩ := p0
        obtain ⟨p, vs, rfl, rfl, ha, hn, e4, rr⟩ := dkAt_ok R1 rx ed0
        refine ⟨p, rfl, .inl ⟨_, .inl e4⟩, μ1, ρ, h1, y, h2, R1, N.mono S1, e2, fun μ2 H2 vy R2 S2 ry => ⟨μ2, ρ, h2, z, h', R2, (N.mono S1).mono S2, e3, fun μ3 H3 vz R3 S3 rz => ?_⟩⟩
        obtain ⟨p', vs', _, e6, ha', hn', e5, rr'⟩ := dkAt_ok R3 ((rx.mono S2).mono S3) ed
        cases e6
        refine ⟨_, by rw [keyOf_ok ek (ry.mono S3)]; exact DGet.k (k := ky) e5, k μ3 H3 _ R3 (S1.trans (S2.trans S3)) (val_getD rr' ky rz)⟩
      · cases e
    · cases e
theorem pe_get2T (hu : X.A.units + 1 < cLine) (ho : PE X o (tEm X.K mo)) (he : PE X e (tKey X.K mkt)) (hf : PE X f (tEm X.K mx)) (m : M2 X o "get" apos e f cpos) : PE X (.Call (.Attribute o "get" apos) [e, f] [] cpos) (tEm X.K (mGet2T mo mkt mx)) :=
  (pe_dget2 hu ho he hf m).imp fun σ H Q ⟨μ, ρ, h, d, h', R, N, e, k⟩ => by
    obtain ⟨⟨x, h1⟩, e1, e⟩ := bind_some e
    dsimp only at e
    split at e
    · rename_i p0 ed0
      obtain ⟨⟨ks, h2⟩, e2, e⟩ := bind_some e
      obtain ⟨⟨z, h3⟩, e3, e⟩ := bind_some e
      dsimp only at e
      split at e
      · rename_i n kvs ed
        cases e
        refine ⟨μ, ρ, h, x, h1, R, N, e1, fun μ1 H1 vx R1 S1 rx => ?_⟩
        obtain ⟨n0, kvs0⟩ := p0
        obtain ⟨p, vs, rfl, rfl, ha, hn, e4, rr⟩ := dtAt_ok R1 rx ed0
        refine ⟨p, rfl, .inr ⟨_, .inl e4⟩, μ1, ρ, h1, ks, h2, R1, N.mono S1, e2, fun μ2 H2 b R2 S2 hb => ⟨μ2, ρ, h2, z, h', R2, (N.mono S1).mono S2, e3, fun μ3 H3 vz R3 S3 rz => ?_⟩⟩
        obtain ⟨p', vs', _, e6, ha', hn', e5, rr'⟩ := dtAt_ok R3 ((rx.mono S2).mono S3) ed
        cases e6
        refine ⟨_, DGet.t (k := ks) e5 (S3.st _ _ hb trivial), k μ3 H3 _ R3 (S1.trans (S2.trans S3)) (val_getD rr' ks rz)⟩
      · cases e
    · cases e
end
end MP

/-! text MiniB3 -/
set_option Elab.async false
set_option linter.all false
set_option maxRecDepth 100000
set_option maxHeartbeats 4000000
/-! dict comprehensions. -/
namespace MP
open PySem PySem.Spec PyProof.Rows
open L2 hiding St
open Classical in
noncomputable def dcLoop {κ : Type} (gd : Gd) (g : GM) (mt : BM) (mkv : Rho → Hs → Option ((κ × D) × Hs)) (put : Hs → κ → D → Option Hs) (ρ0 : Rho) : List D → Hs → Option Hs
  | [], h => if gOk gd h then some h else none
  | x :: xs, h => if gOk gd h then (g x ρ0 h).bind fun q1 => (mt q1.1 q1.2).bind fun q2 => if q2.1 = true then (mkv q1.1 q2.2).bind fun q3 => (put q3.2 q3.1.1 q3.1.2).bind fun h4 => dcLoop gd g mt mkv put ρ0 xs h4
    else dcLoop gd g mt mkv put ρ0 xs q2.2 else none
def kvK (mk mv : EM) : Rho → Hs → Option ((Key × D) × Hs) := fun ρ h => (mk ρ h).bind fun r => (keyOf r.1).bind fun k => (mv ρ r.2).map fun z => ((k, z.1), z.2)
def kvT (mk : KM) (mv : EM) : Rho → Hs → Option ((List Key × D) × Hs) := fun ρ h => (mk ρ h).bind fun r => (mv ρ r.2).map fun z => ((r.1, z.1), z.2)
def putKAt (n0 : Nat) (h : Hs) (k : Key) (d : D) : Option Hs := match h[n0]? with
  | some (.dK kvs) => if kvs.length < sizeLine then some (h.set n0 (.dK (putD kvs k d))) else none
  | _ => none
def putTAt (n0 : Nat) (h : Hs) (k : List Key) (d : D) : Option Hs := match h[n0]? with
  | some (.dT kvs) => if kvs.length < sizeLine then some (h.set n0 (.dT (putD kvs k d))) else none
  | _ => none
noncomputable def mDc (mi : IM) (g : GM) (mt : BM) (mk mv : EM) (vs : List Nat) : EM := fun ρ h => (mi ρ h).bind fun r => (dcLoop r.1.2 g mt (kvK mk mv) (putKAt r.2.length) (wipeR ρ vs) r.1.1 (r.2 ++ [.dK []])).map fun h' => (.loc r.2.length, h')
noncomputable def mDcT (mi : IM) (g : GM) (mt : BM) (mk : KM) (mv : EM) (vs : List Nat) : EM := fun ρ h => (mi ρ h).bind fun r => (dcLoop r.1.2 g mt (kvT mk mv) (putTAt r.2.length) (wipeR ρ vs) r.1.1 (r.2 ++ [.dT []])).map fun h' => (.loc r.2.length, h')
section
variable {κ : Type} {gd : Gd} {g : GM} {mt : BM} {mkv : Rho → Hs → Option ((κ × D) × Hs)} {put : Hs → κ → D → Option Hs} {ρ0 : Rho} {x : D} {xs : List D} {h hf : Hs}
theorem dcLoop_next (e : dcLoop gd g mt mkv put ρ0 (x :: xs) h = some hf) : gOk gd h ∧ ∃ ρ1 h1 b h2, g x ρ0 h = some (ρ1, h1) ∧ mt ρ1 h1 = some (b, h2) ∧
      ((b = true ∧ ∃ k y h3 h4, mkv ρ1 h2 = some ((k, y), h3) ∧ put h3 k y = some h4 ∧ dcLoop gd g mt mkv put ρ0 xs h4 = some hf) ∨ (b = false ∧ dcLoop gd g mt mkv put ρ0 xs h2 = some hf)) := by
  unfold dcLoop at e
  by_cases hg : gOk gd h
  · rw [if_pos hg] at e
    obtain ⟨⟨ρ1, h1⟩, e1, e⟩ := bind_some e
    obtain ⟨⟨b, h2⟩, e2, e⟩ := bind_some e
    refine ⟨hg, ρ1, h1, b, h2, e1, e2, ?_⟩
    cases b with
    | true =>
      left
      obtain ⟨⟨⟨k, y⟩, h3⟩, e3, e⟩ := bind_some e
      obtain ⟨h4, e4, e⟩ := bind_some e
      exact ⟨rfl, k, y, h3, h4, e3, e4, e⟩
    | false => exact .inr ⟨rfl, e⟩
  · rw [if_neg hg] at e; cases e
theorem dcLoop_end (e : dcLoop gd g mt mkv put ρ0 [] h = some hf) : gOk gd h ∧ h = hf := by
  unfold dcLoop at e
  by_cases hg : gOk gd h
  · rw [if_pos hg] at e
    exact ⟨hg, Option.some.inj e⟩
  · rw [if_neg hg] at e; cases e
end
theorem dc_to {K : PySem.W.Frag} {mi : IM} {g : GM} {mt : BM} {mk : EM} {mv : EM} {vs is : List Nat} (hsub : ∀ i ∈ is, i ∈ vs) {σ : Sl} {H : Hp} {Q : VK} (t : tEm K (mDc mi g mt mk mv vs) σ H Q) : tDc (tIm K mi) (tGm K is g) (tBm K mt) (tEm K mk) (tEm K mv) vs σ H Q := by
  obtain ⟨μ, ρ, h, d, hf, R, N, e, k⟩ := t
  obtain ⟨⟨⟨xs, gd⟩, h0⟩, e0, e⟩ := bind_some e
  refine ⟨μ, ρ, h, xs, gd, h0, R, N, e0, fun μ0 H0 J R0 S0 W => ?_⟩
  intro Dp hD
  cases eL : dcLoop gd g mt (kvK mk mv) (putKAt h0.length) (wipeR ρ vs) xs (h0 ++ [.dK []]) with
  | none => rw [show dcLoop _ g mt (kvK mk mv) _ _ _ _ = none from eL] at e; cases e
  | some hf' =>
    rw [show dcLoop _ g mt (kvK mk mv) _ _ _ _ = some hf' from eL] at e
    cases e
    obtain ⟨R00, S00⟩ := R0.alloc (u' := .dK []) (o' := .dK []) hD ⟨[], upd_same, .nil⟩
    have hat : (μ0 ++ [Dp])[h0.length]? = some Dp := by
      rw [List.getElem?_append_right (by rw [R0.len]; exact Nat.le_refl _), R0.len, Nat.sub_self]
      rfl
    have Nw : REnv K H0 μ0 (wipeR ρ vs) (L2.wipe σ vs) := (N.wipe vs).mono S0
    refine ⟨fun i m H1 => ∃ μ1 h1, i + m = xs.length ∧ Rel K μ1 h1 H1 ∧ Stp K μ0 H0 μ1 H1 ∧ μ1[h0.length]? = some Dp ∧ dcLoop gd g mt (kvK mk mv) (putKAt h0.length) (wipeR ρ vs) (xs.drop i) h1 = some hf,
      ⟨xs.length, μ0 ++ [Dp], h0 ++ [.dK []], Nat.zero_add _, R00, S00, hat, by rw [List.drop_zero]; exact eL⟩, fun i m H1 ⟨μ1, h1, em, R1, S1, ha, e1⟩ => ?_⟩
    by_cases hi : i < xs.length
    · right
      have ed : xs.drop i = xs[i] :: xs.drop (i + 1) := List.drop_eq_getElem_cons hi
      rw [ed] at e1
      obtain ⟨hgd, ρ1, h2, b, h3, e2, e3, e4⟩ := dcLoop_next e1
      refine ⟨W.go μ1 h1 H1 i S1 R1 hgd hi, fun H3 => ∃ μ3 h3, Rel K μ3 h3 H3 ∧ Stp K μ0 H0 μ3 H3 ∧ μ3[h0.length]? = some Dp ∧ dcLoop gd g mt (kvK mk mv) (putKAt h0.length) (wipeR ρ vs) (xs.drop (i + 1)) h3 = some hf,
        fun H3 ⟨μ3, h3, q1, q2, q3, q4⟩ => ⟨m - 1, by omega, μ3, h3, by omega, q1, q2, q3, q4⟩, fun x H2 hy => ?_⟩
      obtain ⟨d, hd, R2, S2, rd⟩ := W.yld μ1 h1 H1 i x H2 S1 R1 hgd hi hy
      have hd' : xs[i] = d := by
        rw [List.getElem?_eq_getElem hi] at hd
        exact Option.some.inj hd
      rw [hd'] at e2
      refine ⟨μ1, wipeR ρ vs, h1, d, ρ1, h2, R2, Nw.mono (S1.trans S2), rd, e2, fun μ3 H3 σ3 R3 S3 N3 O3 => ⟨(O3.mono hsub).wipe.trans ?_, μ3, ρ1, h2, b, h3, R3, N3, e3, fun μ4 H4 R4 S4 => ?_⟩⟩
      · refine List.ext_getElem? fun j => ?_
        by_cases hj : j ∈ vs
        · rw [wipe_in _ hj, wipe_in _ hj, wipe_len]
        · rw [wipe_out hj]
      · have S14 := S1.trans (S2.trans (S3.trans S4))
        rcases e4 with ⟨rfl, ky, z, h5, h6, e5, ep, e6⟩ | ⟨rfl, e6⟩
        · refine iteT ?_
          obtain ⟨⟨y, h7⟩, e7, e5⟩ := bind_some e5
          obtain ⟨ky', ek, e5⟩ := bind_some e5
          cases e8 : mv ρ1 h7 with
          | none => dsimp only at e5; rw [e8] at e5; cases e5
          | some r8 =>
            obtain ⟨z', h8⟩ := r8
            dsimp only at e5
            rw [e8] at e5
            cases e5
            refine ⟨μ4, ρ1, h3, y, h7, R4, N3.mono S4, e7, fun μ5 H5 v R5 S5 rv => ⟨μ5, ρ1, h7, _, _, R5, (N3.mono S4).mono S5, e8, fun μ6 H6 u R6 S6 ru => ?_⟩⟩
            unfold putKAt at ep
            split at ep
            · rename_i kvs ea
              split at ep
              · rename_i hz
                cases ep
                have ha6 : μ6[h0.length]? = some Dp := (S2.trans (S3.trans (S4.trans (S5.trans S6)))).ext _ _ ha
                obtain ⟨ws, hw, sw⟩ := R6.obj _ _ _ ha6 ea
                obtain ⟨R7, S7⟩ := dk_write R6 ea ha6 sw ru
                exact ⟨_, _, keyOf_ok ek rv, hw, by rw [zip_lenK sw]; exact hz, μ6, _, R7, S14.trans (S5.trans (S6.trans S7)), ha6, e6⟩
              · cases ep
            · cases ep
        · refine iteF ?_
          exact ⟨μ4, h3, R4, S14, (S2.trans (S3.trans S4)).ext _ _ ha, e6⟩
    · left
      have ei : i = xs.length := by omega
      have ed : xs.drop i = [] := List.drop_of_length_le (by omega)
      rw [ed] at e1
      obtain ⟨hgd, eh⟩ := dcLoop_end e1
      subst eh
      rw [ei]
      exact ⟨W.stop μ1 _ H1 S1 R1 hgd, k μ1 H1 _ R1 (S0.trans S1) (.loc ha)⟩
theorem dct_to {K : PySem.W.Frag} {mi : IM} {g : GM} {mt : BM} {mk : KM} {mv : EM} {vs is : List Nat} (hsub : ∀ i ∈ is, i ∈ vs) {σ : Sl} {H : Hp} {Q : VK} (t : tEm K (mDcT mi g mt mk mv vs) σ H Q) : L2.tDcT (tIm K mi) (tGm K is g) (tBm K mt) (tKey K mk) (tEm K mv) vs σ H Q := by
  obtain ⟨μ, ρ, h, d, hf, R, N, e, k⟩ := t
  obtain ⟨⟨⟨xs, gd⟩, h0⟩, e0, e⟩ := bind_some e
  refine ⟨μ, ρ, h, xs, gd, h0, R, N, e0, fun μ0 H0 J R0 S0 W => ?_⟩
  intro Dp hD
  cases eL : dcLoop gd g mt (kvT mk mv) (putTAt h0.length) (wipeR ρ vs) xs (h0 ++ [.dT []]) with
  | none => rw [show dcLoop _ g mt (kvT mk mv) _ _ _ _ = none from eL] at e; cases e
  | some hf' =>
    rw [show dcLoop _ g mt (kvT mk mv) _ _ _ _ = some hf' from eL] at e
    cases e
    obtain ⟨R00, S00⟩ := R0.alloc (u' := .dT []) (o' := .dT []) hD ⟨[], upd_same, .nil⟩
    have hat : (μ0 ++ [Dp])[h0.length]? = some Dp := by
      rw [List.getElem?_append_right (by rw [R0.len]; exact Nat.le_refl _), R0.len, Nat.sub_self]
      rfl
    have Nw : REnv K H0 μ0 (wipeR ρ vs) (L2.wipe σ vs) := (N.wipe vs).mono S0
    refine ⟨fun i m H1 => ∃ μ1 h1, i + m = xs.length ∧ Rel K μ1 h1 H1 ∧ Stp K μ0 H0 μ1 H1 ∧ μ1[h0.length]? = some Dp ∧ dcLoop gd g mt (kvT mk mv) (putTAt h0.length) (wipeR ρ vs) (xs.drop i) h1 = some hf,
      ⟨xs.length, μ0 ++ [Dp], h0 ++ [.dT []], Nat.zero_add _, R00, S00, hat, by rw [List.drop_zero]; exact eL⟩, fun i m H1 ⟨μ1, h1, em, R1, S1, ha, e1⟩ => ?_⟩
    by_cases hi : i < xs.length
    · right
      have ed : xs.drop i = xs[i] :: xs.drop (i + 1) := List.drop_eq_getElem_cons hi
      rw [ed] at e1
      obtain ⟨hgd, ρ1, h2, b, h3, e2, e3, e4⟩ := dcLoop_next e1
      refine ⟨W.go μ1 h1 H1 i S1 R1 hgd hi, fun H3 => ∃ μ3 h3, Rel K μ3 h3 H3 ∧ Stp K μ0 H0 μ3 H3 ∧ μ3[h0.length]? = some Dp ∧ dcLoop gd g mt (kvT mk mv) (putTAt h0.length) (wipeR ρ vs) (xs.drop (i + 1)) h3 = some hf,
        fun H3 ⟨μ3, h3, q1, q2, q3, q4⟩ => ⟨m - 1, by omega, μ3, h3, by omega, q1, q2, q3, q4⟩, fun x H2 hy => ?_⟩
      obtain ⟨d, hd, R2, S2, rd⟩ := W.yld μ1 h1 H1 i x H2 S1 R1 hgd hi hy
      have hd' : xs[i] = d := by
        rw [List.getElem?_eq_getElem hi] at hd
        exact Option.some.inj hd
      rw [hd'] at e2
      refine ⟨μ1, wipeR ρ vs, h1, d, ρ1, h2, R2, Nw.mono (S1.trans S2), rd, e2, fun μ3 H3 σ3 R3 S3 N3 O3 => ⟨(O3.mono hsub).wipe.trans ?_, μ3, ρ1, h2, b, h3, R3, N3, e3, fun μ4 H4 R4 S4 => ?_⟩⟩
      · refine List.ext_getElem? fun j => ?_
        by_cases hj : j ∈ vs
        · rw [wipe_in _ hj, wipe_in _ hj, wipe_len]
        · rw [wipe_out hj]
      · have S14 := S1.trans (S2.trans (S3.trans S4))
        rcases e4 with ⟨rfl, ky, z, h5, h6, e5, ep, e6⟩ | ⟨rfl, e6⟩
        · refine iteT ?_
          obtain ⟨⟨ks, h7⟩, e7, e5⟩ := bind_some e5
          cases e8 : mv ρ1 h7 with
          | none => dsimp only at e5; rw [e8] at e5; cases e5
          | some r8 =>
            obtain ⟨z', h8⟩ := r8
            dsimp only at e5
            rw [e8] at e5
            cases e5
            refine ⟨μ4, ρ1, h3, _, h7, R4, N3.mono S4, e7, fun μ5 H5 b5 R5 S5 rb => ⟨μ5, ρ1, h7, _, _, R5, (N3.mono S4).mono S5, e8, fun μ6 H6 u R6 S6 ru => ?_⟩⟩
            unfold putTAt at ep
            split at ep
            · rename_i kvs ea
              split at ep
              · rename_i hz
                cases ep
                have ha6 : μ6[h0.length]? = some Dp := (S2.trans (S3.trans (S4.trans (S5.trans S6)))).ext _ _ ha
                obtain ⟨ws, hw, sw⟩ := R6.obj _ _ _ ha6 ea
                obtain ⟨R7, S7⟩ := dt_write R6 ea ha6 sw ru
                exact ⟨_, _, b5, rfl, S6.st _ _ rb trivial, hw, by rw [zip_lenK sw]; exact hz, μ6, _, R7, S14.trans (S5.trans (S6.trans S7)), ha6, e6⟩
              · cases ep
            · cases ep
        · refine iteF ?_
          exact ⟨μ4, h3, R4, S14, (S2.trans (S3.trans S4)).ext _ _ ha, e6⟩
    · left
      have ei : i = xs.length := by omega
      have ed : xs.drop i = [] := List.drop_of_length_le (by omega)
      rw [ed] at e1
      obtain ⟨hgd, eh⟩ := dcLoop_end e1
      subst eh
      rw [ei]
      exact ⟨W.stop μ1 _ H1 S1 R1 hgd, k μ1 H1 _ R1 (S0.trans S1) (.loc ha)⟩
end MP

/-! text MiniB4 -/
set_option Elab.async false
set_option linter.all false
set_option maxRecDepth 100000
set_option maxHeartbeats 4000000
/-! t < u of tuples of any like things. -/
namespace MP
open PySem PySem.Spec PyProof.Rows
open L2 hiding St
def ltDk : O2 := fun x y h => match x, y with
  | .tup xs, .tup ys => match pyD h 20 (.tup xs), pyD h 20 (.tup ys) with
    | some p, some q => if PySem.W.alike p q = true ∧ min p.depth q.depth ≤ 64 then some (.bl (PySem.W.dataLt p q), h) else none
    | _, _ => none
  | x, y => ltO x y h
section
variable {X : Cx}
def rLtD (K : PySem.W.Frag) : R2 := fun x y H Q => ∃ p q, Dp K H x p ∧ Dp K H y q ∧ PySem.W.alike p q = true ∧ p ≠ .none ∧ min p.depth q.depth ≤ 64 ∧ Q (.bl (PySem.W.dataLt p q)) H
theorem op_ltD (hu : X.A.units + 65 < cLine) : OpR X (compareOp .Lt) (rLtD X.K) := fun pins s σ H x y v u Q I rx ry ⟨p, q, h1, h2, h3, h4, h5, k⟩ => by
  obtain ⟨as, ra⟩ := Dp.reads I p x v h1 rx
  obtain ⟨bs, rb⟩ := Dp.reads I q y u h2 ry
  exact PySem.W.lt_data ra rb h3 h4 (by omega) ⟨.bl _, H, I, rfl, k⟩
theorem ltDk_ok (hu : X.A.units + 65 < cLine) : OpR X (compareOp .Lt) (g2 X.K ltDk) := op_of fun μ h H x y d h' vx vy Q R r1 r2 e k => by
  unfold ltDk at e
  split at e
  · split at e
    · rename_i p q e1 e2
      split at e
      · rename_i hh
        cases e
        exact ⟨_, op_ltD hu, p, q, Dp_of R _ _ _ _ r1 e1, Dp_of R _ _ _ _ r2 e2, hh.1, (fun z => by
          unfold pyD at e1
          subst z
          revert e1
          cases pyDs h 19 _ <;> simp), hh.2, k.val R (.bl _)⟩
      · cases e
    · cases e
  · exact ⟨_, lt_ok, g2_of R r1 r2 e k⟩
end
end MP

/-! text Mini10 -/
set_option Elab.async false
set_option linter.all false
set_option maxRecDepth 100000
set_option maxHeartbeats 4000000
namespace MP
open PySem PySem.Spec PyProof.Rows
open L2 hiding St

/-! ### the text: what must be seen of it -/
def notStar : Expr → Bool
  | .Starred .. => false
  | _ => true
def noSetE : Expr → Bool
  | .Set .. => false
  | _ => true
def notSlice : Expr → Bool
  | .Slice .. => false
  | _ => true
def notComp : Expr → Bool
  | .ListComp .. => false
  | .SetComp .. => false
  | .DictComp .. => false
  | _ => true
def notTup : Expr → Bool
  | .Tuple .. => false
  | _ => true
def plainBase : Expr → Bool
  | .Call (.Name ..) [] .. => false
  | _ => true
def plainTest : Expr → Bool
  | .UnaryOp .Not .. => false
  | .BoolOp .. => false
  | .IfExp .. => false
  | .Compare .. => false
  | _ => true
section
variable {e : Expr} {es : List Expr} {env : Env} {pos : Pos}
theorem star_one (h : notStar e = true) : starEach (e :: es) env = (false, eval e env) :: starEach es env := by
  cases e <;> first | rfl | cases h
theorem star_any : ∀ {es : List Expr}, es.all notStar = true → (backTo pos (starEach es env)).any (·.1) = false
  | [], _ => rfl
  | e :: es, h => by
    rw [List.all_cons, Bool.and_eq_true] at h
    rw [star_one h.1]
    show (false || (backTo pos (starEach es env)).any (·.1)) = false
    rw [star_any h.2]
    rfl
theorem star_all : ∀ {es : List Expr}, es.all notStar = true → (backTo pos (starEach es env)).all (fun x => !x.1) = true
  | [], _ => rfl
  | e :: es, h => by
    rw [List.all_cons, Bool.and_eq_true] at h
    rw [star_one h.1]
    show (true && (backTo pos (starEach es env)).all (fun x => !x.1)) = true
    rw [star_all h.2]
    rfl
theorem asg_one (h : notStar e = true) : assignEach (e :: es) env = (false, assign e env) :: assignEach es env := by
  cases e <;> first | rfl | cases h
theorem asg_map (h : notStar e = true) : (assignEach (e :: es) env).map (·.2) = assign e env :: (assignEach es env).map (·.2) := by
  rw [asg_one h]; rfl
theorem asg_len : ∀ {es : List Expr}, es.all notStar = true → (assignEach es env).length = es.length
  | [], _ => rfl
  | e :: es, h => by
    rw [List.all_cons, Bool.and_eq_true] at h
    rw [asg_one h.1, List.length_cons, List.length_cons, asg_len h.2]
theorem asg_star : ∀ {es : List Expr}, es.all notStar = true → (assignEach es env).findIdx? (·.1) = none
  | [], _ => rfl
  | e :: es, h => by
    rw [List.all_cons, Bool.and_eq_true] at h
    rw [asg_one h.1, List.findIdx?_cons, asg_star h.2]
    rfl
theorem set_fold (h : noSetE e = true) (x : Value) : foldedSetIterable e env x = pure x := by
  cases e <;> first | rfl | cases h
theorem set_marks {op : CmpOp} (h : noSetE e = true) : behindInMarks op e = false := by
  cases e <;> first | rfl | cases h
theorem plain_ix (h : notSlice e = true) : PlainIx e := fun o i => by
  cases e <;> first | rfl | cases h
theorem plain_base {m : Str} {w : Sem Value} (h : plainBase e = true) : attributeBase e m env w = w := by
  unfold plainBase at h
  split at h
  · cases h
  · rename_i hn
    unfold attributeBase
    split
    · rename_i id _ _
      exact absurd rfl (hn _ _ _ _)
    · rfl
theorem plain_test (h : plainTest e = true) (w : Sem Value) : isTrue e env w = (do let v ← w; standAt e.pos; holding [v] (truthy v)) := by
  cases e <;> first | rfl | (cases h; done) | skip
  rename_i op a p
  cases op <;> first | rfl | (cases h; done)
theorem swaps_no {t : Option Expr} {l : Nat} (h : notComp e = true) : swapsWith e t l env = pure false := by
  cases e <;> first | rfl | cases h
theorem swaps_sole {t : Expr} {l : Nat} (h : notComp e = true) : swapsWithSole [t] e l env = pure false := swaps_no h
theorem swapped_tup {ts : List Expr} {k : Nat} {p : Pos} (h : notTup e = true) : swappedStores [.Tuple ts k p] e env = pure none := by
  unfold swappedStores
  cases e <;> first | (cases h; done) | rfl
theorem swapped_sub {o i : Expr} {p : Pos} : swappedStores [.Subscript o i p] e env = pure none := rfl
theorem swapped_att {o : Expr} {a : Str} {p : Pos} : swappedStores [.Attribute o a p] e env = pure none := rfl
theorem assign_sub {o i : Expr} (h : notSlice i = true) (v : Value) : assign (.Subscript o i pos) env v = (do
      let ov ← holding [v] (eval o env)
      let iv ← holding [v, ov] (eval i env)
      standAt pos
      holding [v, ov, iv] (setItem ov iv v)
      release [v, ov, iv] []) := by
  cases i <;> first | rfl | cases h
end

/-! ### what is known where the text stands -/
/-- a def that makes lambdas: its names' path, itself, the place of its table -/
structure LamI where
  qual : Str
  own : Str × Option Str
  ti : Nat
/-- classes, closures, dicts -/
structure CtE where
  dk : Bool := false
  at_ : Ats := []
  ms : List ((Str × Nat) × Cands) := []
  mp : List ((Str × Nat) × ON) := []
  mkk : List ((Str × Nat × List Str) × (List ASrc × ON)) := []
  V : List ((Str × Nat) × ON) := []
  L : LamT → Nat → Option ON := fun _ _ => none
  lam : Option LamI := none
structure CeOk (e : CtE) (X : Cx) : Prop where
  at_ : AtsOk X.K e.at_
  ms : ∀ m n cs, e.ms.lookup (m, n) = some cs → ∀ c F, cs.lookup c = some F → OMOk X.prog X.w X.K X.mg X.base X.A c m n F
  mp : ∀ x n F, e.mp.lookup (x, n) = some F → MkOk X.prog X.w X.K X.mg X.base X.A x n F
  mkk : ∀ x n ks as F, e.mkk.lookup (x, n, ks) = some (as, F) → MkKOk X.prog X.w X.K X.mg X.base X.A x n ks as F
  V : ∀ y m F, e.V.lookup (y, m) = some F → VOk X.prog X.w X.K X.mg X.base X.A y m F
  L : ∀ t m G, e.L t m = some G → ∃ k, CloOk X.prog X.w X.K X.mg X.base k t m G ∧ Room k X.A
  lam : ∀ li, e.lam = some li → X.env.qual = li.qual ∧ (∃ cA, X.env.code = .ref cA ∧ LamX.TabB X.base X.mg cA (He.cT X.K li.own).2) ∧ ∀ x, X.fn x = true
theorem CeOk.none {X : Cx} : CeOk ({} : CtE) X := ⟨⟨fun _ _ h => (nomatch h)⟩, fun _ _ _ h => (nomatch h), fun _ _ _ h => (nomatch h), fun _ _ _ _ _ h => (nomatch h), fun _ _ _ h => (nomatch h), fun _ _ _ h => (nomatch h), fun _ h => (nomatch h)⟩
structure CT where
  N : List Str
  sc : Scope
  fx : Option (List (Str × NameKind))
  C : List (Str × D)
  B : List Str
  T : List ((Str × Nat) × ON)
  e : CtE := {}
def CT.fn (c : CT) (x : Str) : Bool := match c.fx with
  | none => true
  | some ns => ns.lookup x == some .cell
/-- the block of a comprehension -/
def CT.blk (c : CT) (scope : Scope) : CT := { c with sc := relS scope c.sc, fx := some scope.names, e := { c.e with lam := none } }
def kindIn (c : CT) (x : Str) : Option NameKind := c.sc.names.lookup x
def isVis (c : CT) (x : Str) : Bool := match kindIn c x with
  | some .local => true
  | some .cell => true
  | some .free => true
  | _ => false
def isGl (c : CT) (x : Str) : Bool := match kindIn c x with
  | some .globalImplicit => true
  | _ => false
def isSt (c : CT) (x : Str) : Bool := match kindIn c x with
  | some .local => true
  | some .cell => c.fn x
  | _ => false
def ixOf (N : List Str) (x : Str) : Option Nat := match N.findIdx? (fun y => decide (y = x)) with
  | some i => if N[i]? = some x then some i else none
  | none => none
theorem ixOf_ok {N : List Str} {x : Str} {i : Nat} (h : ixOf N x = some i) : N[i]? = some x := by
  unfold ixOf at h
  split at h
  · split at h
    · cases h; assumption
    · cases h
  · cases h
structure CtOk (c : CT) (X : Cx) : Prop where
  N : X.N = c.N
  nd : c.N.Nodup
  kd : c.sc.kind = .function
  sc : X.env.scope = c.sc
  fn : ∀ x, X.fn x = c.fn x
  calm : X.calm = true
  xe : X.xe = fun _ _ => False
  hu : X.A.units + 65 < cLine
  C : ∀ x d, c.C.lookup x = some d → ∃ u v, X.mg x = some u ∧ RelV v u ∧ ∀ H μ, RV X.K H μ d v
  B : ∀ x, x ∈ c.B → X.mg x = none
  T : ∀ x n F, c.T.lookup (x, n) = some F → FOk X.prog X.w X.K X.mg X.base X.A x n F
  e : CeOk c.e X
section
variable {c : CT} {X : Cx} {x : Str}
theorem CtOk.vis (ok : CtOk c X) (h : isVis c x = true) : Vis X.env.scope x := by
  unfold isVis kindIn at h
  unfold Vis
  rw [ok.sc]
  split at h
  · exact .inl (by assumption)
  · exact .inr (.inl (by assumption))
  · exact .inr (.inr (by assumption))
  · cases h
theorem CtOk.gl (ok : CtOk c X) (h : isGl c x = true) : Gl X x := by
  unfold isGl kindIn at h
  unfold Gl Env.kindOf
  rw [ok.sc]
  split at h
  · assumption
  · cases h
theorem CtOk.st (ok : CtOk c X) (h : isSt c x = true) : L2.Loc X.env.scope x ∧ (X.fn x = true ∨ X.env.scope.names.lookup x = some .local) := by
  unfold isSt kindIn at h
  unfold L2.Loc
  rw [ok.sc, ok.fn]
  split at h
  · exact ⟨.inl (by assumption), .inr (by assumption)⟩
  · exact ⟨.inr (by assumption), .inl h⟩
  · cases h
theorem CtOk.never (ok : CtOk c X) : PassesOwn (model X.prog X.w) X.A X.env X.xe := by
  rw [ok.xe]
  exact PassesOwn.never
theorem CtOk.blk (ok : CtOk c X) (scope : Scope) (hk : scope.kind = .function) (s : Shared) (H : Hp) (C : Addr) (cl : List (Str × Addr)) (fp : List Addr) : CtOk (c.blk scope) (X.blk s H scope (compEnvC scope cl C X.env) fp) where
  N := ok.N
  nd := ok.nd
  kd := hk
  sc := by
    show relabel scope X.env = relS scope c.sc
    rw [← ok.sc]
    rfl
  fn := fun x => rfl
  calm := ok.calm
  xe := rfl
  hu := ok.hu
  C := ok.C
  B := ok.B
  T := ok.T
  e := ⟨ok.e.at_, ok.e.ms, ok.e.mp, ok.e.mkk, ok.e.V, ok.e.L, fun _ h => nomatch h⟩
end

/-! ### built-in names -/
def tyOf (x : Str) : Option String :=
  if x = ("int" : Str) then some "int" else if x = ("str" : Str) then some "str" else if x = ("bool" : Str) then some "bool" else if x = ("tuple" : Str) then some "tuple" else if x = ("list" : Str) then some "list" else if x = ("dict" : Str) then some "dict" else none
theorem tyOf_ok {x : Str} {n : String} (h : tyOf x = some n) : bootBuiltins x = some (.type n) ∧ x ≠ "__name__" ∧ (x == ("__debug__" : Str)) = false := by
  unfold tyOf at h
  repeat' split at h
  all_goals (first | (cases h; done) | (cases h; subst_vars; exact ⟨by decide +kernel, by decide +kernel, by decide +kernel⟩))
def bltN (x : Str) : Option ON :=
  if x = ("len" : Str) then some lenN else if x = ("isinstance" : Str) then some isinstN else if x = ("list" : Str) then some listN else if x = ("tuple" : Str) then some tupleN
  else if x = ("int" : Str) then some intN else if x = ("min" : Str) then some min2N else if x = ("max" : Str) then some max2N else if x = ("sum" : Str) then some sumN
  else if x = ("all" : Str) then some allN else if x = ("any" : Str) then some anyN else if x = ("sorted" : Str) then some sortedN else none
theorem bltN_ok {x : Str} {g : ON} {X : Cx} (hc : X.calm = true) (h : bltN x = some g) : x ≠ "__name__" ∧ (x == ("__debug__" : Str)) = false ∧
    ((∃ id, bootBuiltins x = some (.builtin id) ∧ CallR X (.builtin id) (gN X.K g)) ∨ ∃ T, bootBuiltins x = some (.type T) ∧ CallR X (.type T) (gN X.K g)) := by
  unfold bltN at h
  split at h
  · cases h; subst_vars; exact ⟨by decide +kernel, by decide +kernel, .inl ⟨_, by decide +kernel, len_ok⟩⟩
  split at h
  · cases h; subst_vars; exact ⟨by decide +kernel, by decide +kernel, .inl ⟨_, by decide +kernel, isinst_ok'⟩⟩
  split at h
  · cases h; subst_vars; exact ⟨by decide +kernel, by decide +kernel, .inr ⟨_, by decide +kernel, list_ok⟩⟩
  split at h
  · cases h; subst_vars; exact ⟨by decide +kernel, by decide +kernel, .inr ⟨_, by decide +kernel, tuple_ok⟩⟩
  split at h
  · cases h; subst_vars; exact ⟨by decide +kernel, by decide +kernel, .inr ⟨_, by decide +kernel, int_ok⟩⟩
  split at h
  · cases h; subst_vars; exact ⟨by decide +kernel, by decide +kernel, .inl ⟨_, by decide +kernel, min2_ok hc⟩⟩
  split at h
  · cases h; subst_vars; exact ⟨by decide +kernel, by decide +kernel, .inl ⟨_, by decide +kernel, max2_ok hc⟩⟩
  split at h
  · cases h; subst_vars; exact ⟨by decide +kernel, by decide +kernel, .inl ⟨_, by decide +kernel, sum_ok hc⟩⟩
  split at h
  · cases h; subst_vars; exact ⟨by decide +kernel, by decide +kernel, .inl ⟨_, by decide +kernel, all_ok hc⟩⟩
  split at h
  · cases h; subst_vars; exact ⟨by decide +kernel, by decide +kernel, .inl ⟨_, by decide +kernel, any_ok hc⟩⟩
  split at h
  · cases h; subst_vars; exact ⟨by decide +kernel, by decide +kernel, .inl ⟨_, by decide +kernel, sorted_ok⟩⟩
  · cases h
/-- methods of built-in types, by name -/
def methL (m : Str) : Option ((Hs → D → Bool) × OM) :=
  if m = ("append" : Str) then some (isLst, appendM) else if m = ("extend" : Str) then some (isLst, extendM) else if m = ("pop" : Str) then some (isLst, popM) else if m = ("index" : Str) then some (isLst, indexM) else none
structure MethOk (X : Cx) (m : Str) (ty : Hs → D → Bool) (g : OM) : Prop where
  ex : ∃ T id, PlainAttrs T ∧ Slot T m id ∧ typeOf (.builtin id) = pure (.type "method_descriptor") ∧ MtR X id (gM X.K g) ∧ ∀ μ h H x v, Rel X.K μ h H → RV X.K H μ x v → ty h x = true → tyV X.K T v H
theorem methL_ok {X : Cx} {m : Str} {ty : Hs → D → Bool} {g : OM} (h : methL m = some (ty, g)) : MethOk X m ty g := by
  unfold methL at h
  split at h
  · cases h; subst_vars; exact ⟨_, _, PySem.F.plainAttrs_list, PySem.F.slot_list_append, PySem.F.type_list_append, append_ok, isLst_ok⟩
  split at h
  · cases h; subst_vars; exact ⟨_, _, PySem.F.plainAttrs_list, PySem.F.slot_list_extend, PySem.F.type_list_extend, extend_ok, isLst_ok⟩
  split at h
  · cases h; subst_vars; exact ⟨_, _, PySem.F.plainAttrs_list, PySem.F.slot_list_pop, PySem.F.type_list_pop, pop_ok, isLst_ok⟩
  split at h
  · cases h; subst_vars; exact ⟨_, _, PySem.F.plainAttrs_list, PySem.F.slot_list_index, PySem.F.type_list_index, index_ok, isLst_ok⟩
  · cases h
end MP

/-! text Mini11 -/
set_option Elab.async false
set_option linter.all false
set_option maxRecDepth 100000
set_option maxHeartbeats 4000000
namespace MP
open PySem PySem.Spec PyProof.Rows
open L2 hiding St

/-! ### two or three plain names at once: stored from the right -/
def setAll (ρ : Rho) : List Nat → List D → Rho
  | i :: is, d :: ds => setAll (ρ.set i (some d)) is ds
  | _, _ => ρ
def sPar (is : List Nat) (ma : AM) : SM := fun ρ h => (ma ρ h).bind fun r => if r.1.length = is.length then some (.nx, setAll ρ is r.1, r.2) else none
def isStar : Expr → Bool
  | .Starred .. => true
  | _ => false
/-- what swappedStores says -/
def swP (sc : Scope) (ts vs : List Expr) : Option (Option (List Str)) :=
  if (!(ts.length == 2 || ts.length == 3) || vs.length != ts.length) = true then some none
  else if (vs.any fun | .Starred .. => true | _ => false) = true then some none
  else if ((ts.filterMap fun
      | .Name id pos => if sc.names.lookup id == some .local && pos.line == (ts.head?.map (·.pos.line)).getD 0 then some id else none
      | _ => none).length != ts.length || (ts.filterMap fun
      | .Name id pos => if sc.names.lookup id == some .local && pos.line == (ts.head?.map (·.pos.line)).getD 0 then some id else none
      | _ => none).eraseDups.length != (ts.filterMap fun
      | .Name id pos => if sc.names.lookup id == some .local && pos.line == (ts.head?.map (·.pos.line)).getD 0 then some id else none
      | _ => none).length) = true then some none
    else if vs.all (foldedForSure 8) = true then some none
    else if vs.all (constantsAlone 8) = true then none
    else some (some (ts.filterMap fun
      | .Name id pos => if sc.names.lookup id == some .local && pos.line == (ts.head?.map (·.pos.line)).getD 0 then some id else none
      | _ => none))
theorem swP_ok {env : Env} {ts vs : List Expr} {k k2 : Nat} {p p2 : Pos} {r : Option (List Str)} (hk : env.scope.kind = .function) (h : swP env.scope ts vs = some r) : swappedStores [.Tuple ts k p] (.Tuple vs k2 p2) env = pure r := by
  have hb : env.blockKind = .function := by unfold Env.blockKind; rw [hk]; rfl
  unfold swP at h
  unfold swappedStores Env.kindOf
  simp only [hb, bne_self_eq_false, Bool.or_false]
  split at h
  · rename_i c1
    cases h
    exact if_pos c1
  rename_i c1
  refine (if_neg c1).trans ?_
  split at h
  · rename_i c2
    cases h
    exact if_pos c2
  rename_i c2
  refine (if_neg c2).trans ?_
  split at h
  · rename_i c3
    cases h
    exact if_pos c3
  rename_i c3
  refine (if_neg c3).trans ?_
  split at h
  · rename_i c4
    cases h
    exact if_pos c4
  rename_i c4
  refine (if_neg c4).trans ?_
  split at h
  · cases h
  · rename_i c5
    cases h
    exact if_neg c5
section
variable {X : Cx} {pos : Pos}
theorem ps_par3 {i j l : Nat} {x y z : Str} {a b c : Expr} {ta : TA} {px py pz pt : Pos} {kt k2 pt2} (hc : X.calm = true) (hN : X.N.Nodup) (hi : X.N[i]? = some x) (hj : X.N[j]? = some y) (hl : X.N[l]? = some z) (hij : i ≠ j) (hil : i ≠ l) (hjl : j ≠ l)
    (hx : X.env.scope.names.lookup x = some .local) (hy : X.env.scope.names.lookup y = some .local) (hz : X.env.scope.names.lookup z = some .local) (ha : PA X [a, b, c] ta)
    (hw : swappedStores [.Tuple [.Name x px, .Name y py, .Name z pz] kt pt] (.Tuple [a, b, c] k2 pt2) X.env = pure (some [x, y, z]))
    (hs : swapsWithSole [.Tuple [.Name x px, .Name y py, .Name z pz] kt pt] (.Tuple [a, b, c] k2 pt2) pos.line X.env = pure false) :
    PS X (.Assign [.Tuple [.Name x px, .Name y py, .Name z pz] kt pt] (.Tuple [a, b, c] k2 pt2) pos) (fun D σ H => ta σ H fun vs H1 => ∃ v w u, vs = [v, w, u] ∧ D.nx (((σ.set i (some v)).set j (some w)).set l (some u)) H1) := by
  refine ⟨fun pins s σ H D I h => ?_⟩
  rw [exec_Assign_arm]
  refine wpAny_bind (wpAny_standAt ?_)
  rw [hs]
  refine wpAny_bind (wpAny_pure ?_)
  rw [if_neg (by decide)]
  refine wpAny_bind (Tuple_ (thn (ha.run _ pins s σ H _ I h) fun us s1 ⟨vs, H1, I1, r1, q1⟩ => ?_))
  obtain ⟨v, w, u, e1, q1⟩ := q1
  subst e1
  obtain ⟨u1, u2, u3, rfl, rv, rw', ru⟩ : ∃ u1 u2 u3, us = [u1, u2, u3] ∧ RelV v u1 ∧ RelV w u2 ∧ RelV u u3 := by
    cases r1 with
    | cons p q =>
      cases q with
      | cons p' q' =>
        cases q' with
        | cons p'' q'' =>
          cases q''
          exact ⟨_, _, _, rfl, p, p', p''⟩
  refine wpAny_newObj_type ?_ (by show 3 ≤ sizeLine; decide)
  have I2 : Inv X pins σ H1 { s1 with heap := s1.heap.push { cls := .type "tuple", data := .seq [u1, u2, u3].toArray } } := I1.kept (t' := s1.toks) fun b o e => Heap.get?_push_of_some _ e
  rw [hw]
  refine wpAny_bind (wpAny_pure ?_)
  show wpAny (model X.prog X.w) X.A (do rule "assign.swapped-stores"; let items ← unpackItems (.ref s1.heap.objs.size) 3 none; assignInOrder [fun v => bindName X.env z v, fun v => bindName X.env y v, fun v => bindName X.env x v] items.reverse; pure Flow.next) _ _ _
  refine wpAny_bind (wpAny_rule (wpAny_bind (unpackItems_tuple (items := #[u1, u2, u3]) (I.ok.hd hc) (IsTup.new s1.heap _) fun h' hx' => ?_)))
  have I3 := I2.kept (h' := h') (t' := s1.toks) fun b o e => hx' b o (Nat.ne_of_lt (Heap.lt_size e)) e
  show wpAny _ _ (assignInOrder [fun v => bindName X.env z v, fun v => bindName X.env y v, fun v => bindName X.env x v] [u3, u2, u1] >>= fun _ => pure Flow.next) _ _ _
  refine wpAny_bind (assignInOrder_cons (wpAny_bindName (store_ok I3 hN hl (.inl hz) ru (fun s2 I4 => ?_) (.inr hz))))
  refine assignInOrder_cons (wpAny_bindName (store_ok I4 hN hj (.inl hy) rw' (fun s3 I5 => ?_) (.inr hy)))
  refine assignInOrder_cons (wpAny_bindName (store_ok I5 hN hi (.inl hx) rv (fun s4 I6 => assignInOrder_nil (wpAny_pure ?_)) (.inr hx)))
  have e : ((σ.set l (some u)).set j (some w)).set i (some v) = ((σ.set i (some v)).set j (some w)).set l (some u) := by
    rw [List.set_comm _ _ (Ne.symm hjl), List.set_comm _ _ (Ne.symm hil), List.set_comm _ _ (Ne.symm hij)]
  rw [e] at I6
  exact ⟨_, H1, I6, q1⟩
theorem ps_p2 {i j : Nat} {x y : Str} {a b : Expr} {mas : AM} {px py pt : Pos} {kt k2 pt2} (hc : X.calm = true) (hN : X.N.Nodup) (hi : X.N[i]? = some x) (hj : X.N[j]? = some y) (hij : i ≠ j)
    (hx : X.env.scope.names.lookup x = some .local) (hy : X.env.scope.names.lookup y = some .local) (ha : PA X [a, b] (tAm X.K mas))
    (hw : swappedStores [.Tuple [.Name x px, .Name y py] kt pt] (.Tuple [a, b] k2 pt2) X.env = pure (some [x, y])) :
    PS X (.Assign [.Tuple [.Name x px, .Name y py] kt pt] (.Tuple [a, b] k2 pt2) pos) (tSm X.K (sPar [i, j] mas)) := (ps_par hc hN hi hj hij hx hy ha hw rfl).imp fun D σ H ⟨μ, ρ, h, f, ρ', h', R, N, e, k⟩ => by
  obtain ⟨⟨ds, h1⟩, e1, e⟩ := bind_some e
  refine ⟨μ, ρ, h, ds, h1, R, N, e1, fun μ1 H1 vs R1 S1 rs => ?_⟩
  split at e
  · rename_i hl
    cases e
    cases rs with
    | nil => cases hl
    | cons r1 r2 =>
      cases r2 with
      | nil => cases hl
      | cons r2 r3 =>
        cases r3 with
        | cons _ _ => cases hl
        | nil => exact ⟨_, _, rfl, k μ1 H1 R1 S1 _ (((N.mono S1).set r1 i).set r2 j)⟩
  · cases e
theorem ps_p3 {i j l : Nat} {x y z : Str} {a b c : Expr} {mas : AM} {px py pz pt : Pos} {kt k2 pt2} (hc : X.calm = true) (hN : X.N.Nodup) (hi : X.N[i]? = some x) (hj : X.N[j]? = some y) (hl : X.N[l]? = some z) (hij : i ≠ j) (hil : i ≠ l) (hjl : j ≠ l)
    (hx : X.env.scope.names.lookup x = some .local) (hy : X.env.scope.names.lookup y = some .local) (hz : X.env.scope.names.lookup z = some .local) (ha : PA X [a, b, c] (tAm X.K mas))
    (hw : swappedStores [.Tuple [.Name x px, .Name y py, .Name z pz] kt pt] (.Tuple [a, b, c] k2 pt2) X.env = pure (some [x, y, z])) :
    PS X (.Assign [.Tuple [.Name x px, .Name y py, .Name z pz] kt pt] (.Tuple [a, b, c] k2 pt2) pos) (tSm X.K (sPar [i, j, l] mas)) := (ps_par3 hc hN hi hj hl hij hil hjl hx hy hz ha hw rfl).imp fun D σ H ⟨μ, ρ, h, f, ρ', h', R, N, e, k⟩ => by
  obtain ⟨⟨ds, h1⟩, e1, e⟩ := bind_some e
  refine ⟨μ, ρ, h, ds, h1, R, N, e1, fun μ1 H1 vs R1 S1 rs => ?_⟩
  split at e
  · rename_i hl
    cases e
    cases rs with
    | nil => cases hl
    | cons r1 r2 =>
      cases r2 with
      | nil => cases hl
      | cons r2 r3 =>
        cases r3 with
        | nil => cases hl
        | cons r3 r4 =>
          cases r4 with
          | cons _ _ => cases hl
          | nil => exact ⟨_, _, _, rfl, k μ1 H1 R1 S1 _ ((((N.mono S1).set r1 i).set r2 j).set r3 l)⟩
  · cases e
end
end MP

/-! text Mini12 -/
set_option Elab.async false
set_option linter.all false
set_option maxRecDepth 100000
set_option maxHeartbeats 4000000
namespace MP
open PySem PySem.Spec PyProof.Rows
open L2 hiding St

/-! ### from the text to what is run -/
structure CP where
  E : CT → Expr → EM
  T : CT → Expr → BM
  I : CT → Expr → Expr → IM
  G : CT → Expr → GM
  J : CT → Expr → List Nat
  S : CT → Stmt → SM
noncomputable section
def CP.zero : CP := ⟨fun _ _ => mNo, fun _ _ => bNo, fun _ _ _ => iNo, fun _ _ => gNo, fun _ _ => [], fun _ _ => sNo⟩
def binO : Operator → Option O2
  | .Add => some addD
  | .Sub => some subD
  | .Mult => some mulD
  | .Mod => some modD
  | .FloorDiv => some fdivD
  | .Pow => some powD
  | _ => none
def cmpO : CmpOp → O2
  | .Eq => eqO
  | .NotEq => neO
  | .Lt => ltO
  | .LtE => leO
  | .Gt => gtO
  | .GtE => geO
  | .Is => isO
  | .IsNot => isNotO
  | .In => inO
  | .NotIn => notInO
def iaddO : O2 := fun x y h => match x, y with
  | .int i, .int j => some (.int (i + j), h)
  | .str a, .str b => if a.length + b.length ≤ sizeLine then some (.str (a ++ b), h) else none
  | _, _ => none
def isubO : O2 := fun x y h => match x, y with
  | .int i, .int j => some (.int (i - j), h)
  | _, _ => none
def augO : Operator → Option O2
  | .Add => some iaddO
  | .Sub => some isubO
  | _ => none
section
variable (p : CP) (c : CT)
def argsM : List Expr → AM
  | [] => aNil
  | e :: es => aCons (p.E c e) (argsM es)
def andE : List Expr → EM
  | [] => mNo
  | [a] => p.E c a
  | a :: r => mAndV (p.E c a) (andE r)
def orE : List Expr → EM
  | [] => mNo
  | [a] => p.E c a
  | a :: r => mOrV (p.E c a) (orE r)
def andT : List Expr → BM
  | [] => bNo
  | [a] => p.T c a
  | a :: r => bAnd (p.T c a) (andT r)
def orT : List Expr → BM
  | [] => bNo
  | [a] => p.T c a
  | a :: r => bOr (p.T c a) (orT r)
def constE : Const → EM
  | .int i => mC (.int i)
  | .str x => mC (.str x)
  | .bool b => mC (.bl b)
  | .none => mC .non
  | _ => mNo
def nameE (x : Str) : EM :=
  if isVis c x = true ∧ (x == ("__debug__" : Str)) = false ∧ (x == ("__classdict__" : Str)) = false then match ixOf c.N x with
    | some i => mVar i
    | none => mNo
  else if isGl c x = true ∧ (x == ("__debug__" : Str)) = false then match c.C.lookup x with
    | some d => mC d
    | none => if x ∈ c.B then match tyOf x with
        | some n => mC (.ty n)
        | none => mNo
      else mNo
  else mNo
def cmpE (a : Expr) (ops : List CmpOp) (bs : List Expr) : EM := match ops, bs with
  | [op], [b] => if noSetE b = true then mOp2 (cmpO op) (p.E c a) (p.E c b) else mNo
  | [op, op'], [b, b'] => if noSetE b' = true then mChain (cmpO op) (cmpO op') (p.E c a) (p.E c b) (p.E c b') else mNo
  | _, _ => mNo
def partE : Option Expr → PM
  | none => pNo
  | some e => pInt (p.E c e)
def subE (a b : Expr) : EM := match b with
  | .Slice lo hi none _ => mSl (p.E c a) (partE p c lo) (partE p c hi)
  | b => if notSlice b = true then mOp2 ixO (p.E c a) (p.E c b) else mNo
def callE (x : Str) (es : List Expr) : EM :=
  if isGl c x = true ∧ es.all notStar = true ∧ (x == ("__debug__" : Str)) = false then match c.T.lookup (x, es.length) with
    | some F => mCallF es.length F (argsM p c es)
    | none => if x ∈ c.B ∧ es ≠ [] then match bltN x with
        | some g => mCallN g (argsM p c es)
        | none => mNo
      else mNo
  else mNo
def methE (o : Expr) (m : Str) (apos : Pos) (es : List Expr) (pos : Pos) : EM :=
  if plainBase o = true ∧ es.all notStar = true ∧ es.length < 28 ∧ (apos.endLine == pos.line) = true then match methL m with
    | some (ty, g) => mMeth ty g (p.E c o) (argsM p c es)
    | none => mNo
  else mNo
/-- a block's own names and their places -/
def ownOf (N : List Str) : List (Str × NameKind) → List (Str × Nat)
  | [] => []
  | (x, .local) :: r => (match ixOf N x with
    | some i => [(x, i)]
    | none => []) ++ ownOf N r
  | (x, .cell) :: r => (match ixOf N x with
    | some i => [(x, i)]
    | none => []) ++ ownOf N r
  | _ :: r => ownOf N r
def testsM : List Expr → BM
  | [] => bYes
  | [t] => p.T c t
  | _ => bNo
def lcE (elt : Expr) (gens : List Comprehension) (scope : Scope) : EM := match gens with
  | [⟨tg, it, ifs, 0⟩] => if blkC c.N c.sc scope (ownOf c.N scope.names) = true ∧ noSetE it = true ∧ (p.J (c.blk scope) tg).all (fun i => decide (i ∈ (ownOf c.N scope.names).map (·.2))) = true ∧ ifs.length ≤ 1 then
      mLc (p.I c tg it) (p.G (c.blk scope) tg) (testsM p (c.blk scope) ifs) (p.E (c.blk scope) elt) ((ownOf c.N scope.names).map (·.2)) else mNo
  | _ => mNo
def stepE : Expr → EM
  | .Constant k _ _ => constE k
  | .Name x _ => nameE c x
  | .BinOp a op b _ => (match binO op with
    | some g => mOp2 g (p.E c a) (p.E c b)
    | none => mNo)
  | .UnaryOp .Not a _ => mNotV (p.E c a)
  | .UnaryOp .USub a _ => mOp1 negO (p.E c a)
  | .BoolOp .And es _ => andE p c es
  | .BoolOp .Or es _ => orE p c es
  | .IfExp t a b _ => mIf (p.T c t) (p.E c a) (p.E c b)
  | .Compare a ops bs _ => cmpE p c a ops bs
  | .Tuple es _ _ => if es.all notStar = true then mTup (argsM p c es) else mNo
  | .List es _ => if es.all notStar = true then mLst (argsM p c es) else mNo
  | .Subscript a b _ => subE p c a b
  | .Call (.Name x _) es [] _ => callE p c x es
  | .Call (.Attribute o m apos) es [] pos => methE p c o m apos es pos
  | .ListComp elt gens scope _ => lcE p c elt gens scope
  | _ => mNo
def stepT : Expr → BM
  | .UnaryOp .Not a _ => bNot (p.T c a)
  | .BoolOp .And es _ => andT p c es
  | .BoolOp .Or es _ => orT p c es
  | .Compare a ops bs _ => bBool (cmpE p c a ops bs)
  | e => if plainTest e = true then bTru (p.E c e) else bNo
def isTup : Expr → Bool
  | .Tuple .. => true
  | _ => false
def iterM (tg it : Expr) : IM := match it with
  | .Call (.Name x _) [a] [] _ => if x = ("range" : Str) ∧ isGl c x = true ∧ x ∈ c.B ∧ notStar a = true then iRange1 (p.E c a)
    else if x = ("enumerate" : Str) ∧ isGl c x = true ∧ x ∈ c.B ∧ notStar a = true ∧ isTup tg = true then iEnum (p.E c a) else iSeq (p.E c it)
  | .Call (.Name x _) [a, b] [] _ => if x = ("range" : Str) ∧ isGl c x = true ∧ x ∈ c.B ∧ notStar a = true ∧ notStar b = true then iRange2 (p.E c a) (p.E c b) else iSeq (p.E c it)
  | .Call (.Name x _) [a, b, d] [] _ => if x = ("range" : Str) ∧ isGl c x = true ∧ x ∈ c.B ∧ notStar a = true ∧ notStar b = true ∧ notStar d = true then iRange3 (p.E c a) (p.E c b) (p.E c d) else iSeq (p.E c it)
  | _ => iSeq (p.E c it)
def targM : List Expr → GsM
  | [] => gsNil
  | e :: es => gsCons (p.G c e) (targM es)
def targJ : List Expr → List Nat
  | [] => []
  | e :: es => p.J c e ++ targJ es
def stepG : Expr → GM
  | .Name x _ => if isSt c x = true then match ixOf c.N x with
      | some i => gVar i
      | none => gNo
    else gNo
  | .Tuple es _ _ => if es.all notStar = true then gTupM es.length (targM p c es) else gNo
  | .Subscript o i _ => if notSlice i = true then gSubM (p.E c o) (p.E c i) else gNo
  | _ => gNo
def stepJ : Expr → List Nat
  | .Name x _ => (match ixOf c.N x with
      | some i => [i]
      | none => [])
  | .Tuple es _ _ => targJ p c es
  | _ => []
def stmtsM : List Stmt → SM
  | [] => sNext
  | s :: ss => sSeq (p.S c s) (stmtsM ss)
/-- a comprehension's value stored into this name goes by the other road -/
def swapB (e : Expr) (x : Str) (px : Pos) : Bool := match e with
  | .ListComp _ _ sc _ => (kindIn c x == some .local) && (px.line == e.pos.line) && !(sc.names.any fun (n, k) => n == x && (k == .local || k == .cell))
  | _ => false
def parM (ts vs : List Expr) : SM := match ts, vs with
  | [.Name x _, .Name y _], [a, b] => (match ixOf c.N x, ixOf c.N y with
    | some i, some j => if kindIn c x = some .local ∧ kindIn c y = some .local ∧ i ≠ j ∧ [a, b].all notStar = true then sPar [i, j] (argsM p c [a, b]) else sNo
    | _, _ => sNo)
  | [.Name x _, .Name y _, .Name z _], [a, b, d] => (match ixOf c.N x, ixOf c.N y, ixOf c.N z with
    | some i, some j, some l => if kindIn c x = some .local ∧ kindIn c y = some .local ∧ kindIn c z = some .local ∧ i ≠ j ∧ i ≠ l ∧ j ≠ l ∧ [a, b, d].all notStar = true then sPar [i, j, l] (argsM p c [a, b, d]) else sNo
    | _, _, _ => sNo)
  | _, _ => sNo
def nameOf : Expr → Option Str
  | .Name x _ => some x
  | _ => none
def asgM (tg e : Expr) : SM := match tg with
  | .Name x px => if isSt c x = true then match ixOf c.N x with
      | some i => (match e with
        | .ListComp elt gens scope _ => sSet (lcE p c elt gens scope) (gVar i)
        | _ => if notComp e = true then sSet (p.E c e) (gVar i) else sNo)
      | none => sNo
    else sNo
  | .Tuple ts _ _ => (match e with
    | .Tuple vs _ _ => (match swP c.sc ts vs with
      | some none => sSet (p.E c e) (p.G c tg)
      | some (some ns) => if ts.map nameOf = ns.map some then parM p c ts vs else sNo
      | none => sNo)
    | _ => if notComp e = true then sSet (p.E c e) (p.G c tg) else sNo)
  | .Subscript .. => if notComp e = true then sSet (p.E c e) (p.G c tg) else sNo
  | _ => sNo
def stepS : Stmt → SM
  | .Expr e _ => if notComp e = true then sExpr (p.E c e) else sNo
  | .Return (some e) _ => sRet (p.E c e)
  | .Return none _ => sRetN
  | .Assign [tg] e _ => asgM p c tg e
  | .AugAssign (.Name x _) op e _ => if isSt c x = true then match ixOf c.N x, augO op with
      | some i, some g => sAug i (p.E c e) g
      | _, _ => sNo
    else sNo
  | .If t a b _ => sIf (p.T c t) (stmtsM p c a) (stmtsM p c b)
  | .For tg it body [] _ => if noSetE it = true then sFor (p.I c tg it) (p.G c tg) (stmtsM p c body) else sNo
  | .While t body [] _ => sWhile (p.T c t) (stmtsM p c body)
  | .Pass _ => sNext
  | .Break _ => sBreak
  | .Continue _ => sCont
  | _ => sNo
end
end

/-! ### it is right -/
structure CPok (p : CP) : Prop where
  E : ∀ c X e, CtOk c X → PE X e (tEm X.K (p.E c e))
  T : ∀ c X e, CtOk c X → PT X e (tBm X.K (p.T c e))
  I : ∀ c X tg it, CtOk c X → PI X tg it (tIm X.K (p.I c tg it))
  G : ∀ c X tg, CtOk c X → PG X tg (tGm X.K (p.J c tg) (p.G c tg))
  S : ∀ c X st, CtOk c X → PS X st (tSm X.K (p.S c st))
theorem zero_ok : CPok .zero where
  E := fun _ _ _ _ => pe_no
  T := fun _ _ _ _ => pt_no
  I := fun _ _ _ _ _ => pi_no
  G := fun _ _ _ _ => pg_no
  S := fun _ _ _ _ => ps_no
section
variable {p : CP} {c : CT} {X : Cx} {e : Expr} {es : List Expr} {pos : Pos}
theorem args_ok (P : CPok p) (ok : CtOk c X) : ∀ {es : List Expr}, es.all notStar = true → PA X es (tAm X.K (argsM p c es))
  | [], _ => pa_0
  | e :: es, h => by
    rw [List.all_cons, Bool.and_eq_true] at h
    exact pa_1 (P.E c X e ok) (args_ok P ok h.2) (star_one h.1)
theorem andE_ok (P : CPok p) (ok : CtOk c X) : ∀ es : List Expr, PE X (.BoolOp .And es pos) (tEm X.K (andE p c es))
  | [] => pe_no
  | [a] => pe_one (P.E c X a ok)
  | a :: b :: r => pe_and2 (P.E c X a ok) (andE_ok P ok (b :: r))
theorem orE_ok (P : CPok p) (ok : CtOk c X) : ∀ es : List Expr, PE X (.BoolOp .Or es pos) (tEm X.K (orE p c es))
  | [] => pe_no
  | [a] => pe_one (P.E c X a ok)
  | a :: b :: r => pe_or2 (P.E c X a ok) (orE_ok P ok (b :: r))
theorem andT_ok (P : CPok p) (ok : CtOk c X) : ∀ es : List Expr, PW X (.BoolOp .And es pos) (tBm X.K (andT p c es))
  | [] => pw_no
  | [a] => pw_and1 (P.T c X a ok)
  | a :: b :: r => pw_and2 (P.T c X a ok) (andT_ok P ok (b :: r))
theorem orT_ok (P : CPok p) (ok : CtOk c X) : ∀ es : List Expr, PW X (.BoolOp .Or es pos) (tBm X.K (orT p c es))
  | [] => pw_no
  | [a] => pw_or1 (P.T c X a ok)
  | a :: b :: r => pw_or2 (P.T c X a ok) (orT_ok P ok (b :: r))
theorem const_ok (k : Const) (j : Nat) : PE X (.Constant k j pos) (tEm X.K (constE k)) := by
  cases k with
  | int i => exact pe_C pe_int fun _ _ => .int i
  | str x => exact pe_C pe_str fun _ _ => .str x
  | bool b => exact pe_C pe_bl fun _ _ => .bl b
  | none => exact pe_C pe_non fun _ _ => .non
  | _ => exact pe_no
theorem name_ok (ok : CtOk c X) (x : Str) : PE X (.Name x pos) (tEm X.K (nameE c x)) := by
  unfold nameE
  split
  · rename_i h
    split
    · rename_i i hi
      exact pe_V (pe_var (by rw [ok.N]; exact ixOf_ok hi) (ok.vis h.1) h.2.1 h.2.2)
    · exact pe_no
  · split
    · rename_i h
      split
      · rename_i d hd
        obtain ⟨u, v, h1, h2, h3⟩ := ok.C x d hd
        exact pe_C (pe_glob (ok.gl h.1) h1 h2 h.2) h3
      · split
        · rename_i hB
          split
          · rename_i n hn
            obtain ⟨h1, h2, h3⟩ := tyOf_ok hn
            exact pe_C (pe_bltn (v := .ty n) (ok.gl h.1) (ok.B x hB) h1 rfl h2 h3) fun _ _ => .ty n
          · exact pe_no
        · exact pe_no
    · exact pe_no
theorem bin_ok {op : Operator} {g : O2} (h : binO op = some g) : OpR X (binaryOp op) (g2 X.K g) := by
  cases op <;> first | (cases h; done) | skip
  · cases h; exact add_ok
  · cases h; exact sub_ok
  · cases h; exact mul_ok
  · cases h; exact mod_ok
  · cases h; exact pow_ok
  · cases h; exact fdiv_ok
theorem cmp_ok (hu : X.A.units + 65 < cLine) (op : CmpOp) : OpR X (compareOp op) (g2 X.K (cmpO op)) := by
  cases op
  · exact eq_ok (by omega)
  · exact ne_ok (by omega)
  · exact lt_ok
  · exact le_ok
  · exact gt_ok
  · exact ge_ok
  · exact is_ok
  · exact isNot_ok
  · exact in_ok hu
  · exact notIn_ok hu
theorem aug_ok {op : Operator} {g : O2} (h : augO op = some g) : OpR X (inplaceOp op) (g2 X.K g) := by
  cases op <;> first | (cases h; done) | skip
  · cases h
    exact op_of fun μ h H x y d h' vx vy Q R r1 r2 e k => by
      unfold iaddO at e
      split at e
      · cases e; cases r1; cases r2
        exact ⟨_, iop_add, _, _, rfl, rfl, k.val R (.int _)⟩
      · split at e
        · cases e; cases r1; cases r2
          rename_i hz
          exact ⟨_, iop_add_str, _, _, rfl, rfl, hz, k.val R (.str _)⟩
        · cases e
      · cases e
  · cases h
    exact op_of fun μ h H x y d h' vx vy Q R r1 r2 e k => by
      unfold isubO at e
      split at e
      · cases e; cases r1; cases r2
        exact ⟨_, iop_sub, _, _, rfl, rfl, k.val R (.int _)⟩
      · cases e
theorem cmpE_ok (P : CPok p) (ok : CtOk c X) (a : Expr) (ops : List CmpOp) (bs : List Expr) : PE X (.Compare a ops bs pos) (tEm X.K (cmpE p c a ops bs)) := by
  unfold cmpE
  split
  · split
    · rename_i h
      exact pe_cmp2 (cmp_ok ok.hu _) (P.E c X _ ok) (P.E c X _ ok) (set_marks h)
    · exact pe_no
  · split
    · rename_i h
      exact pe_chain2 (cmp_ok ok.hu _) (cmp_ok ok.hu _) (P.E c X _ ok) (P.E c X _ ok) (P.E c X _ ok) (set_marks h)
    · exact pe_no
  · exact pe_no
theorem part_ok (P : CPok p) (ok : CtOk c X) (o : Option Expr) : PO X o (tPm X.K (partE p c o)) := by
  cases o with
  | none => exact po_0
  | some e => exact po_1 (P.E c X e ok)
theorem sub_ok' (P : CPok p) (ok : CtOk c X) (a b : Expr) : PE X (.Subscript a b pos) (tEm X.K (subE p c a b)) := by
  unfold subE
  split
  · exact pe_sl2 (P.E c X a ok) (part_ok P ok _) (part_ok P ok _)
  · split
    · rename_i h
      exact pe_ix2 (P.E c X a ok) (P.E c X _ ok) (plain_ix h)
    · exact pe_no
theorem call_ok' (P : CPok p) (ok : CtOk c X) {fp : Pos} (x : Str) (es : List Expr) : PE X (.Call (.Name x fp) es [] pos) (tEm X.K (callE p c x es)) := by
  unfold callE
  split
  · rename_i h
    obtain ⟨h1, h2, h3⟩ := h
    split
    · rename_i F hF
      obtain ⟨k, f, fd, ps, ds, dvs, sp, G, hr, hm, hk, hb, hd, hs⟩ := (ok.T x _ F hF).ex
      have go : ∀ σ H Q, tEm X.K (mCallF es.length F (argsM p c es)) σ H Q → tCall sp dvs E0 (tAm X.K (argsM p c es)) σ H Q := fun σ H Q ⟨μ, ρ, h, d, h', R, N, e, kk⟩ => by
        obtain ⟨⟨xs, h1⟩, e1, e⟩ := bind_some e
        split at e
        · rename_i hl
          refine ⟨μ, ρ, h, xs, h1, R, N, e1, fun μ1 H1 vs R1 S1 rs => hs vs H1 Q (by rw [← rs.length]; exact hl) ⟨μ1, h1, xs, d, h', R1, rs, e, fun μ2 H2 v R2 S2 rv => kk μ2 H2 v R2 (S1.trans S2) rv⟩⟩
        · cases e
      cases es with
      | nil =>
        refine (pe_call0 G hr (ok.gl h1) hm hk hb hd pass0 h3).imp fun σ H Q t => ?_
        obtain ⟨μ, ρ, h, ds', h1', R, N, e1, kk⟩ := go σ H Q t
        cases e1
        exact kk μ H [] R (Stp.refl ..) .nil
      | cons e es =>
        have h2' := h2
        rw [List.all_cons, Bool.and_eq_true] at h2'
        exact (pe_call G hr (ok.gl h1) hm hk hb hd pass0 (args_ok P ok h2) h3 (star_one h2'.1) (star_any h2'.2)).imp go
    · split
      · rename_i hB
        split
        · rename_i g hg
          cases es with
          | nil => exact absurd rfl hB.2
          | cons e es =>
            have h2' := h2
            rw [List.all_cons, Bool.and_eq_true] at h2'
            obtain ⟨n1, n2, n3⟩ := bltN_ok (X := X) ok.calm hg
            rcases n3 with ⟨id, b1, b2⟩ | ⟨T, b1, b2⟩
            · exact (pe_callB b2 (ok.gl h1) (ok.B x hB.1) b1 (args_ok P ok h2) n1 n2 (star_one h2'.1) (star_any h2'.2)).imp fun σ H Q t => cb_to t
            · exact (pe_callTy b2 (ok.gl h1) (ok.B x hB.1) b1 (args_ok P ok h2) n1 n2 (star_one h2'.1) (star_any h2'.2)).imp fun σ H Q t => cb_to t
        · exact pe_no
      · exact pe_no
  · exact pe_no
theorem meth_ok' (P : CPok p) (ok : CtOk c X) (o : Expr) (m : Str) (apos : Pos) (es : List Expr) : PE X (.Call (.Attribute o m apos) es [] pos) (tEm X.K (methE p c o m apos es pos)) := by
  unfold methE
  split
  · rename_i h
    obtain ⟨h1, h2, h3, h4⟩ := h
    split
    · rename_i ty g hg
      obtain ⟨T, id, m1, m2, m3, m4, m5⟩ := (methL_ok (X := X) hg).ex
      cases es with
      | nil => exact pe_meth20 m1 m2 m3 m4 m5 (P.E c X o ok) (plain_base h1) h4
      | cons e es =>
        have h2' := h2
        rw [List.all_cons, Bool.and_eq_true] at h2'
        refine pe_meth2 m1 m2 m3 m4 m5 (P.E c X o ok) (args_ok P ok h2) (plain_base h1) ?_ h4 (star_one h2'.1) (star_any h2'.2)
        rw [star_all h2]
        have h3' : (e :: es).length < 30 := by omega
        simp only [Bool.true_and, Bool.and_true, List.length_nil, List.isEmpty_nil, Nat.add_zero, if_pos]
        show ((backToKw pos ([] : List (Option Str × Sem Value))).all _ && decide ((e :: es).length < 30)) = true
        rw [decide_eq_true h3']
        rfl
    · exact pe_no
  · exact pe_no
theorem tests_ok (P : CPok p) (ok : CtOk c X) (ifs : List Expr) (h : ifs.length ≤ 1) : PTs X ifs (tBm X.K (testsM p c ifs)) := by
  match ifs, h with
  | [], _ => exact pts_0
  | [t], _ => exact pts_one (P.T c X t ok)
theorem own_kind {N : List Str} {sc scope : Scope} {own : List (Str × Nat)} (h : blkC N sc scope own = true) : scope.kind = .function := (blkOk_by h).kind
theorem lc_ok (P : CPok p) (ok : CtOk c X) (elt : Expr) (gens : List Comprehension) (scope : Scope) : PE X (.ListComp elt gens scope pos) (tEm X.K (lcE p c elt gens scope)) := by
  unfold lcE
  split
  · rename_i tg it ifs
    split
    · rename_i h
      obtain ⟨h1, h2, h3, h4⟩ := h
      have hk := own_kind h1
      have hb : BlkOk X.N X.env.scope scope (ownOf c.N scope.names) := by rw [ok.N, ok.sc]; exact blkOk_by h1
      refine (pe_lc (g := tGm X.K _ _) ok.calm (by rw [ok.N]; exact ok.nd) (P.I c X tg it ok) hb (fun s H C cl fp => P.G (c.blk scope) _ tg (ok.blk scope hk s H C cl fp)) (fun s H C cl fp => tests_ok P (ok.blk scope hk s H C cl fp) ifs h4)
        (fun s H C cl fp => P.E (c.blk scope) _ elt (ok.blk scope hk s H C cl fp)) (fun x => set_fold h2 x)).imp fun σ H Q t => lc_to (fun i hi => ?_) t
      have := List.all_eq_true.mp h3 i hi
      exact of_decide_eq_true this
    · exact pe_no
  · exact pe_no
theorem stepE_ok (P : CPok p) (ok : CtOk c X) (e : Expr) : PE X e (tEm X.K (stepE p c e)) := by
  unfold stepE
  split
  · exact const_ok _ _
  · exact name_ok ok _
  · split
    · rename_i g hg
      exact pe_2 (bin_ok hg) (P.E c X _ ok) (P.E c X _ ok)
    · exact pe_no
  · exact pe_not2 (P.E c X _ ok)
  · exact pe_neg2 (P.E c X _ ok)
  · exact andE_ok P ok _
  · exact orE_ok P ok _
  · exact pe_if2 (P.T c X _ ok) (P.E c X _ ok) (P.E c X _ ok)
  · exact cmpE_ok P ok _ _ _
  · split
    · exact pe_tup2 (args_ok P ok (by assumption))
    · exact pe_no
  · split
    · exact pe_lst2 (args_ok P ok (by assumption))
    · exact pe_no
  · exact sub_ok' P ok _ _
  · exact call_ok' P ok _ _
  · exact meth_ok' P ok _ _ _ _
  · exact lc_ok P ok _ _ _
  · exact pe_no
end
end MP

/-! text Mini13 -/
set_option Elab.async false
set_option linter.all false
set_option maxRecDepth 100000
set_option maxHeartbeats 4000000
namespace MP
open PySem PySem.Spec PyProof.Rows
open L2 hiding St
section
variable {p : CP} {c : CT} {X : Cx} {e : Expr} {es : List Expr} {pos : Pos}
theorem pt_noE : PT X e (tBm X.K (bBool mNo)) := ⟨fun pins s σ H Q I ⟨_, _, _, _, _, _, _, z, _⟩ => nomatch z⟩
theorem cmpT_ok (P : CPok p) (ok : CtOk c X) (a : Expr) (ops : List CmpOp) (bs : List Expr) : PT X (.Compare a ops bs pos) (tBm X.K (bBool (cmpE p c a ops bs))) := by
  unfold cmpE
  split
  · split
    · rename_i h
      exact pt_cmp2 (cmp_ok ok.hu _) (P.E c X _ ok) (P.E c X _ ok) (set_marks h)
    · exact pt_noE
  · split
    · rename_i h
      exact pt_chain2 (cmp_ok ok.hu _) (cmp_ok ok.hu _) (P.E c X _ ok) (P.E c X _ ok) (P.E c X _ ok) (set_marks h)
    · exact pt_noE
  · exact pt_noE
theorem stepT_ok (P : CPok p) (ok : CtOk c X) (e : Expr) : PT X e (tBm X.K (stepT p c e)) := by
  unfold stepT
  split
  · exact pt_not2 (P.T c X _ ok)
  · exact (andT_ok P ok _).pt
  · exact (orT_ok P ok _).pt
  · exact cmpT_ok P ok _ _ _
  · split
    · rename_i h
      exact pt_tru (P.E c X _ ok) (plain_test h)
    · exact pt_no
theorem iter_ok (P : CPok p) (ok : CtOk c X) (tg it : Expr) : PI X tg it (tIm X.K (iterM p c tg it)) := by
  unfold iterM
  split
  · rename_i x fp a pos
    split
    · rename_i h
      obtain ⟨rfl, h2, h3, h4⟩ := h
      exact pi_range1' (ok.gl h2) (ok.B _ h3) (pa_1 (P.E c X _ ok) pa_0 (star_one h4)) (star_one h4)
    · split
      · rename_i h
        obtain ⟨rfl, h2, h3, h4, h5⟩ := h
        cases tg <;> first | (cases h5; done) | skip
        exact pi_enum2 (ok.gl h2) (ok.B _ h3) (pa_1 (P.E c X _ ok) pa_0 (star_one h4)) (star_one h4)
      · exact pi_seq (P.E c X _ ok)
  · split
    · rename_i h
      obtain ⟨rfl, h2, h3, h4, h5⟩ := h
      exact pi_range2' (ok.gl h2) (ok.B _ h3) (pa_1 (P.E c X _ ok) (pa_1 (P.E c X _ ok) pa_0 (star_one h5)) (star_one h4)) ((star_one h4).trans (congrArg _ (star_one h5))) (star_one h5)
    · exact pi_seq (P.E c X _ ok)
  · rename_i x fp a b d pos
    split
    · rename_i h
      obtain ⟨rfl, h2, h3, h4, h5, h6⟩ := h
      have ha : [b, d].all notStar = true := by
        rw [List.all_cons, List.all_cons, h5, h6]
        rfl
      exact pi_range3' (ok.gl h2) (ok.B _ h3) (pa_1 (P.E c X _ ok) (pa_1 (P.E c X _ ok) (pa_1 (P.E c X _ ok) pa_0 (star_one h6)) (star_one h5)) (star_one h4)) (star_one h4) (star_any ha)
    · exact pi_seq (P.E c X _ ok)
  · exact pi_seq (P.E c X _ ok)
theorem targ_ok (P : CPok p) (ok : CtOk c X) : ∀ {es : List Expr}, es.all notStar = true → PGs X es (tGsm X.K (targJ p c es) (targM p c es))
  | [], _ => pgs_0
  | e :: es, h => by
    rw [List.all_cons, Bool.and_eq_true] at h
    exact pgs_1 (P.G c X e ok) (targ_ok P ok h.2) (asg_map h.1)
theorem stepG_ok (P : CPok p) (ok : CtOk c X) (tg : Expr) : PG X tg (tGm X.K (stepJ p c tg) (stepG p c tg)) := by
  unfold stepG stepJ
  cases tg <;> first | exact pg_no | skip
  · -- o[i]
    dsimp only
    split
    · rename_i h
      exact pg_sub2 (P.E c X _ ok) (P.E c X _ ok) (assign_sub h)
    · exact pg_no
  · -- a name
    rename_i x px
    dsimp only
    cases hi : ixOf c.N x with
    | none =>
      dsimp only
      split <;> exact pg_no
    | some i =>
      dsimp only
      split
      · rename_i h
        obtain ⟨s1, s2⟩ := ok.st h
        exact pg_var (pg_name (by rw [ok.N]; exact ok.nd) (by rw [ok.N]; exact ixOf_ok hi) s1 s2)
      · exact pg_no
  · -- a tuple
    dsimp only
    split
    · rename_i h
      exact pg_tup2 ok.calm (targ_ok P ok h) (asg_len h) (asg_star h)
    · exact pg_no
theorem stmts_ok (P : CPok p) (ok : CtOk c X) : ∀ ss : List Stmt, PSs X ss (tSm X.K (stmtsM p c ss))
  | [] => pss_0
  | s :: ss => pss_1 (P.S c X s ok) (stmts_ok P ok ss)
theorem par_ok (P : CPok p) (ok : CtOk c X) {ts vs : List Expr} {ns : List Str} {k k2 : Nat} {pt p2 : Pos} (hw : swappedStores [.Tuple ts k pt] (.Tuple vs k2 p2) X.env = pure (some ns)) (hn : ts.map nameOf = ns.map some) :
    PS X (.Assign [.Tuple ts k pt] (.Tuple vs k2 p2) pos) (tSm X.K (parM p c ts vs)) := by
  have loc : ∀ {x : Str}, kindIn c x = some .local → X.env.scope.names.lookup x = some .local := fun {x} h => by rw [ok.sc]; exact h
  unfold parM
  split
  · rename_i x px y py a b
    split
    · rename_i i j hi hj
      split
      · rename_i h
        obtain ⟨h1, h2, h3, h4⟩ := h
        have en : ns = [x, y] := by
          have := hn
          match ns, this with
          | [u, v], this =>
            simp only [List.map_cons, List.map_nil, nameOf, List.cons.injEq, Option.some.injEq] at this
            rw [this.1, this.2.1]
          | [], this => simp at this
          | [_], this => simp at this
          | _ :: _ :: _ :: _, this => simp at this
        rw [en] at hw
        exact ps_p2 ok.calm (by rw [ok.N]; exact ok.nd) (by rw [ok.N]; exact ixOf_ok hi) (by rw [ok.N]; exact ixOf_ok hj) h3 (loc h1) (loc h2) (args_ok P ok h4) hw
      · exact ps_no
    · exact ps_no
  · rename_i x px y py z pz a b d
    split
    · rename_i i j l hi hj hl
      split
      · rename_i h
        obtain ⟨h1, h2, h3, h4, h5, h6, h7⟩ := h
        have en : ns = [x, y, z] := by
          have := hn
          match ns, this with
          | [u, v, w], this =>
            simp only [List.map_cons, List.map_nil, nameOf, List.cons.injEq, Option.some.injEq] at this
            rw [this.1, this.2.1, this.2.2.1]
          | [], this => simp at this
          | [_], this => simp at this
          | [_, _], this => simp at this
          | _ :: _ :: _ :: _ :: _, this => simp at this
        rw [en] at hw
        exact ps_p3 ok.calm (by rw [ok.N]; exact ok.nd) (by rw [ok.N]; exact ixOf_ok hi) (by rw [ok.N]; exact ixOf_ok hj) (by rw [ok.N]; exact ixOf_ok hl) h4 h5 h6 (loc h1) (loc h2) (loc h3) (args_ok P ok h7) hw
      · exact ps_no
    · exact ps_no
  · exact ps_no
theorem sw_false {elt : Expr} {gs : List Comprehension} {scope : Scope} {ps px : Pos} {x : Str} {l : Nat} {env : Env} (hk : env.scope.kind = .function)
    (h : ((env.scope.names.lookup x == some .local) && (px.line == ps.line) && !(scope.names.any fun (n, k) => n == x && (k == .local || k == .cell))) = false) : swapsWith (.ListComp elt gs scope ps) (some (.Name x px)) l env = pure false := by
  have hb : env.blockKind = .function := by unfold Env.blockKind; rw [hk]; rfl
  unfold swapsWith Env.kindOf
  simp only [hb, Expr.pos]
  exact congrArg pure h
theorem ps_noSet {st : Stmt} {g : GM} : PS X st (tSm X.K (sSet mNo g)) := ⟨fun pins s σ H Q I ⟨_, _, _, _, _, _, _, _, z, _⟩ => nomatch z⟩
theorem asg_lc (P : CPok p) (ok : CtOk c X) {x : Str} {px : Pos} {i : Nat} {elt : Expr} {gens : List Comprehension} {scope : Scope} {ps : Pos} (hs : isSt c x = true) (hi : ixOf c.N x = some i) :
    PS X (.Assign [.Name x px] (.ListComp elt gens scope ps) pos) (tSm X.K (sSet (lcE p c elt gens scope) (gVar i))) := by
  obtain ⟨s1, s2⟩ := ok.st hs
  have hN : X.N.Nodup := by rw [ok.N]; exact ok.nd
  have hiN : X.N[i]? = some x := by rw [ok.N]; exact ixOf_ok hi
  have hk : X.env.scope.kind = .function := by rw [ok.sc]; exact ok.kd
  cases hsw : ((X.env.scope.names.lookup x == some .local) && (px.line == ps.line) && !(scope.names.any fun (n, k) => n == x && (k == .local || k == .cell))) with
  | false => exact ps_set2 hN hiN s1 (lc_ok P ok elt gens scope) (sw_false hk hsw) s2
  | true =>
    rw [Bool.and_eq_true, Bool.and_eq_true, Bool.not_eq_true', beq_iff_eq] at hsw
    obtain ⟨⟨w1, w2⟩, w3⟩ := hsw
    have hsw' : ∀ {elt : Expr} {gens : List Comprehension}, swapsWith (.ListComp elt gens scope ps) (some (.Name x px)) pos.line X.env = pure true := sw_true hk w1 w2 w3
    unfold lcE
    split
    · rename_i tg it ifs
      split
      · rename_i h
        obtain ⟨h1, h2, h3, h4⟩ := h
        have hk2 := own_kind h1
        have hb : BlkOk X.N X.env.scope scope (ownOf c.N scope.names) := by rw [ok.N, ok.sc]; exact blkOk_by h1
        refine (ps_setLc (g := tGm X.K _ _) (tt := tBm X.K (testsM p (c.blk scope) ifs)) (te := tEm X.K (p.E (c.blk scope) elt)) ok.calm hN hiN w1 hsw' (P.I c X tg it ok) hb (fun s H C cl fp => P.G (c.blk scope) _ tg (ok.blk scope hk2 s H C cl fp)) (fun s H C cl fp => tests_ok P (ok.blk scope hk2 s H C cl fp) ifs h4)
          (fun s H C cl fp => P.E (c.blk scope) _ elt (ok.blk scope hk2 s H C cl fp)) (fun x => set_fold h2 x)).imp fun D σ H t => ?_
        obtain ⟨μ, ρ, h, f, ρ', h', R, N, e, k⟩ := t
        obtain ⟨⟨x0, h10⟩, e1, e⟩ := bind_some e
        cases e
        refine lc_to (fun i hi => of_decide_eq_true (List.all_eq_true.mp h3 i hi)) ⟨μ, ρ, h, x0, h10, R, N, e1, fun μ1 H1 vx R1 S1 rx => k μ1 H1 R1 S1 _ ((N.mono S1).set rx i)⟩
      · exact ps_noSet
    · exact ps_noSet
theorem asg_ok (P : CPok p) (ok : CtOk c X) (tg e : Expr) : PS X (.Assign [tg] e pos) (tSm X.K (asgM p c tg e)) := by
  have hk : X.env.scope.kind = .function := by rw [ok.sc]; exact ok.kd
  unfold asgM
  split
  · split
    · rename_i h
      split
      · rename_i i hi
        obtain ⟨s1, s2⟩ := ok.st h
        split
        · exact asg_lc P ok h hi
        · split
          · rename_i hn
            exact ps_set2 (by rw [ok.N]; exact ok.nd) (by rw [ok.N]; exact ixOf_ok hi) s1 (P.E c X _ ok) (swaps_no hn) s2
          · exact ps_no
      · exact ps_no
    · exact ps_no
  · split
    · split
      · rename_i hw
        rw [← ok.sc] at hw
        exact ps_asg' (P.E c X _ ok) (P.G c X _ ok) rfl (swP_ok hk hw) rfl
      · rename_i ns hw
        rw [← ok.sc] at hw
        split
        · rename_i hn
          exact par_ok P ok (swP_ok hk hw) hn
        · exact ps_no
      · exact ps_no
    · split
      · rename_i hn
        have ht : notTup e = true := by
          cases e <;> first | rfl | (rename_i h; exact absurd rfl (h _ _ _))
        exact ps_asg' (P.E c X _ ok) (P.G c X _ ok) (swaps_sole hn) (swapped_tup ht) rfl
      · exact ps_no
  · split
    · rename_i hn
      exact ps_asg' (P.E c X _ ok) (P.G c X _ ok) (swaps_sole hn) swapped_sub rfl
    · exact ps_no
  · exact ps_no
theorem stepS_ok (P : CPok p) (ok : CtOk c X) (st : Stmt) : PS X st (tSm X.K (stepS p c st)) := by
  unfold stepS
  split
  · split
    · rename_i hn
      exact ps_expr2 (P.E c X _ ok) (swaps_no hn)
    · exact ps_no
  · exact ps_ret2 (P.E c X _ ok)
  · exact ps_retN2
  · exact asg_ok P ok _ _
  · split
    · rename_i h
      split
      · rename_i i g hi hg
        obtain ⟨s1, s2⟩ := ok.st h
        exact ps_aug2 (by rw [ok.N]; exact ok.nd) (by rw [ok.N]; exact ixOf_ok hi) s1 (P.E c X _ ok) (aug_ok hg) s2
      · exact ps_no
    · exact ps_no
  · exact ps_if2 (P.T c X _ ok) (stmts_ok P ok _) (stmts_ok P ok _)
  · split
    · rename_i h
      exact ps_for2 ok.never ok.calm (P.I c X _ _ ok) (P.G c X _ ok) (stmts_ok P ok _) (fun x => set_fold h x)
    · exact ps_no
  · exact ps_while2 ok.never (P.T c X _ ok) (stmts_ok P ok _)
  · exact ps_nx ps_pass
  · exact ps_bk
  · exact ps_ct
  · exact ps_no
end
end MP

/-! text Mini13x -/
set_option Elab.async false
set_option linter.all false
set_option maxRecDepth 100000
set_option maxHeartbeats 4000000
/-! the text of classes, closures, dicts. -/
namespace MP
open PySem PySem.Spec PyProof.Rows
open L2 hiding St

/-! ### what the text asks -/
theorem meth_form {o : Expr} {m : Str} {apos pos : Pos} {es : List Expr} {env : Env} (h1 : plainBase o = true) (hf : methodCallForm (es.length + ([] : List Keyword).length) (backTo pos (starEach es env)) (backToKw pos (keywordEach [] env)) = true) (hl : (apos.endLine == pos.line) = true) :
    eval (.Call (.Attribute o m apos) es [] pos) env = (do
      let ov ← eval o env
      standAt apos.atName
      let (f, first) ← holding [ov] (getMethod ov m (do return (← importBound o env).getD true))
      callWith pos f first (backTo pos (starEach es env)) (backToKw pos (keywordEach [] env))) := by
  rw [arm_eval_Call, plain_base h1]
  unfold methodCall calleeOf methodCallPos
  rw [hf, hl]
  rfl
theorem few_ok {es : List Expr} {env : Env} {pos : Pos} (h : es.all notStar = true) (hl : es.length < 28) : methodCallForm (es.length + ([] : List Keyword).length) (backTo pos (starEach es env)) (backToKw pos (keywordEach [] env)) = true := by
  unfold methodCallForm
  rw [star_all h]
  show (true && true && decide (es.length + 0 + 0 < 30)) = true
  rw [decide_eq_true (by omega)]
  rfl
theorem swaps_att {e o : Expr} {f : Str} {p : Pos} {l : Nat} {env : Env} : swapsWith e (some (.Attribute o f p)) l env = pure false := by
  cases e <;> rfl
theorem kw_names {kws : List Keyword} {pos : Pos} {env : Env} : (backToKw pos (keywordEach kws env)).map (·.1) = kws.map (·.arg) := by
  induction kws with
  | nil => rfl
  | cons k r ih =>
    obtain ⟨a, v, p⟩ := k
    show a :: (backToKw pos (keywordEach r env)).map (·.1) = a :: r.map (·.arg)
    rw [ih]
def kwNames : List Keyword → Option (List Str)
  | [] => some []
  | ⟨some x, _, _⟩ :: r => (kwNames r).map (x :: ·)
  | _ => none
theorem kwNames_ok {kws : List Keyword} {ks : List Str} (h : kwNames kws = some ks) : kws.map (·.arg) = ks.map some := by
  induction kws generalizing ks with
  | nil => cases h; rfl
  | cons k r ih =>
    obtain ⟨a, v, p⟩ := k
    cases a with
    | none => cases h
    | some x =>
      unfold kwNames at h
      cases q : kwNames r with
      | none => rw [q] at h; cases h
      | some l =>
        rw [q] at h
        cases h
        show some x :: r.map (·.arg) = some x :: l.map some
        rw [ih q]
theorem all_map_fst {α β : Type} {f : α → Bool} : ∀ (l : List (α × β)), l.all (fun x => f x.1) = (l.map (·.1)).all f
  | [] => rfl
  | x :: l => by rw [List.all_cons, List.map_cons, List.all_cons, all_map_fst l]
theorem any_map_fst {α β : Type} {f : α → Bool} : ∀ (l : List (α × β)), l.any (fun x => f x.1) = (l.map (·.1)).any f
  | [] => rfl
  | x :: l => by rw [List.any_cons, List.map_cons, List.any_cons, any_map_fst l]
theorem fm_map_fst {α β : Type} : ∀ (l : List (Option α × β)), l.filterMap (·.1) = (l.map (·.1)).filterMap id
  | [] => rfl
  | (none, _) :: l => fm_map_fst l
  | (some a, b) :: l => by
    show a :: l.filterMap (·.1) = a :: (l.map (·.1)).filterMap id
    rw [fm_map_fst l]
section
variable {kws : List Keyword} {ks : List Str} {pos : Pos} {env : Env}
theorem kw_all (h : kwNames kws = some ks) : (backToKw pos (keywordEach kws env)).all (·.1.isSome) = true := by
  rw [all_map_fst (f := Option.isSome), kw_names, kwNames_ok h]
  simp
theorem kw_none (h : kwNames kws = some ks) : (backToKw pos (keywordEach kws env)).any (·.1.isNone) = false := by
  rw [any_map_fst (f := Option.isNone), kw_names, kwNames_ok h]
  simp
theorem kw_ks (h : kwNames kws = some ks) : (backToKw pos (keywordEach kws env)).filterMap (·.1) = ks := by
  rw [fm_map_fst, kw_names, kwNames_ok h]
  simp
end

/-! ### the lambda's text -/
def frOf : List (Str × NameKind) → List Str
  | [] => []
  | (x, .free) :: r => x :: frOf r
  | _ :: r => frOf r
theorem frOf_mem : ∀ {l : List (Str × NameKind)} {y : Str}, y ∈ frOf l → (y, NameKind.free) ∈ l
  | (x, k) :: r, y, h => by
    cases k <;> first
      | exact List.mem_cons_of_mem _ (frOf_mem (l := r) h)
      | (rcases List.mem_cons.mp h with z | z
         · rw [z]; exact List.mem_cons_self
         · exact List.mem_cons_of_mem _ (frOf_mem z))
def ixsOf (N : List Str) : List Str → Option (List Nat)
  | [] => some []
  | x :: r => match ixOf N x, ixsOf N r with
    | some i, some is => some (i :: is)
    | _, _ => none
theorem ixsOf_ok {N : List Str} : ∀ {xs : List Str} {js : List Nat}, ixsOf N xs = some js → js.map (fun j => N[j]?) = xs.map some
  | [], _, h => by cases h; rfl
  | x :: r, js, h => by
    unfold ixsOf at h
    split at h
    · rename_i i is hi his
      cases h
      rw [List.map_cons, List.map_cons, ixsOf_ok his, ixOf_ok hi]
    · cases h
def lamOf (li : LamI) (params : Arguments) (body : Expr) (scope : Scope) : LamT := ⟨li.own, li.qual ++ "<lambda>", params, body, scope, params.args.map (·.arg), frOf scope.names⟩
def noDef : Arguments → Bool
  | ⟨_, _, _, _, [], _, []⟩ => true
  | _ => false
theorem noDef_ok {a : Arguments} {env : Env} (h : noDef a = true) : defaultsOf a env = ([], []) := by
  unfold noDef at h
  split at h
  · rfl
  · cases h
noncomputable section
variable (p : CP) (c : CT)
def fldE (o : Expr) (f : Str) : EM := if plainBase o = true then mFld c.e.at_ f (p.E c o) else mNo
def cmpD : CmpOp → Option O2
  | .In => some inDk
  | .NotIn => some notInDk
  | .Lt => some ltDk
  | _ => none
def cmpE2 (a : Expr) (ops : List CmpOp) (bs : List Expr) : EM := match c.e.dk, ops, bs with
  | true, [op], [b] => (match cmpD op with
    | some g => if noSetE b = true then mOp2 g (p.E c a) (p.E c b) else mNo
    | none => cmpE p c a ops bs)
  | _, _, _ => cmpE p c a ops bs
def subE2 (a b : Expr) : EM := if c.e.dk = true ∧ notSlice b = true then mOp2 ixD (p.E c a) (p.E c b) else subE p c a b
def callE2 (x : Str) (es : List Expr) : EM :=
  if isVis c x = true then (if es.all notStar = true ∧ es ≠ [] ∧ (x == ("__debug__" : Str)) = false ∧ (x == ("__classdict__" : Str)) = false then match ixOf c.N x with
      | some i => mCallV es.length c.e.V c.e.L i (argsM p c es)
      | none => mNo
    else mNo)
  else match c.e.mp.lookup (x, es.length) with
    | some F => if isGl c x = true ∧ es.all notStar = true ∧ (x == ("__debug__" : Str)) = false then mMake es.length x F (argsM p c es) else mNo
    | none => callE p c x es
def kwsM : List Keyword → AM
  | [] => aNil
  | k :: r => aCons (p.E c k.value) (kwsM r)
def mkE (x : Str) (es : List Expr) (kws : List Keyword) : EM := match kwNames kws with
  | some ks => (match c.e.mkk.lookup (x, es.length, ks) with
    | some (as, F) => if isGl c x = true ∧ es.all notStar = true ∧ (x == ("__debug__" : Str)) = false then mMakeK es.length ks.length x as F (argsM p c es) (kwsM p c kws) else mNo
    | none => mNo)
  | none => mNo
def getE (o a b : Expr) : EM := match a with
  | .Tuple ks _ _ => if ks.all notStar = true then mGet2T (p.E c o) (kTup (argsM p c ks)) (p.E c b) else mNo
  | a => mGet2 (p.E c o) (p.E c a) (p.E c b)
def methE2 (o : Expr) (m : Str) (apos : Pos) (es : List Expr) (pos : Pos) : EM := match c.e.ms.lookup (m, es.length) with
  | some cs => if plainBase o = true ∧ es.all notStar = true ∧ es.length < 28 ∧ (apos.endLine == pos.line) = true then mMethI es.length cs m (p.E c o) (argsM p c es) else mNo
  | none => if c.e.dk = true ∧ m = ("get" : Str) then (match es with
      | [a, b] => if plainBase o = true ∧ notStar a = true ∧ notStar b = true ∧ (apos.endLine == pos.line) = true then getE p c o a b else mNo
      | _ => mNo)
    else methE p c o m apos es pos
/-- a key that is a new tuple -/
def keyK : Expr → Option KM
  | .Tuple ks _ _ => if ks.all notStar = true then some (kTup (argsM p c ks)) else none
  | .Subscript a (.Slice lo hi none _) _ => some (kSl (p.E c a) (partE p c lo) (partE p c hi))
  | _ => none
def dcE (kx vx : Expr) (gens : List Comprehension) (scope : Scope) : EM := match gens with
  | [⟨tg, it, ifs, 0⟩] => if blkC c.N c.sc scope (ownOf c.N scope.names) = true ∧ noSetE it = true ∧ (p.J (c.blk scope) tg).all (fun i => decide (i ∈ (ownOf c.N scope.names).map (·.2))) = true ∧ ifs.length ≤ 1 then
      (match keyK p (c.blk scope) kx with
      | some mk => mDcT (p.I c tg it) (p.G (c.blk scope) tg) (testsM p (c.blk scope) ifs) mk (p.E (c.blk scope) vx) ((ownOf c.N scope.names).map (·.2))
      | none => mDc (p.I c tg it) (p.G (c.blk scope) tg) (testsM p (c.blk scope) ifs) (p.E (c.blk scope) kx) (p.E (c.blk scope) vx) ((ownOf c.N scope.names).map (·.2))) else mNo
  | _ => mNo
def mDNew : EM := fun _ h => some (.loc h.length, h ++ [.dK []])
def stepE2 : Expr → EM
  | .Attribute o f _ => fldE p c o f
  | .Compare a ops bs _ => cmpE2 p c a ops bs
  | .Subscript a b _ => subE2 p c a b
  | .Call (.Name x _) es [] _ => callE2 p c x es
  | .Call (.Name x _) es kws _ => mkE p c x es kws
  | .Call (.Attribute o m apos) es [] pos => methE2 p c o m apos es pos
  | .DictComp kx vx gens scope _ => dcE p c kx vx gens scope
  | .Dict [] [] _ => mDNew
  | e => stepE p c e
def stepT2 : Expr → BM
  | .Compare a ops bs _ => bBool (cmpE2 p c a ops bs)
  | e => stepT p c e
/-- the statement behind a lambda that hands it on -/
def handM (t : LamT) (js : List Nat) : Stmt → Option (Nat → SM)
  | .Expr (.Call (.Name g _) [e1, .Call (.Name f _) (e :: es) [] _] [] _) _ => (match c.T.lookup (g, 2), c.T.lookup (f, es.length + 1) with
    | some G, some F => if isGl c g = true ∧ isGl c f = true ∧ notStar e1 = true ∧ (e :: es).all notStar = true ∧ (g == ("__debug__" : Str)) = false ∧ (f == ("__debug__" : Str)) = false then
        some (sHandA (p.E c e1) (inC (es.length + 1) F t js (argsM p c (e :: es))) G) else none
    | _, _ => none)
  | .Assign [.Name y _] (.Call (.Name f _) (e :: es) [] _) _ => (match ixOf c.N y, c.T.lookup (f, es.length + 1) with
    | some j, some F => if isSt c y = true ∧ isGl c f = true ∧ (e :: es).all notStar = true ∧ (f == ("__debug__" : Str)) = false then
        some (sHandB (inC (es.length + 1) F t js (argsM p c (e :: es))) j) else none
    | _, _ => none)
  | _ => none
def pairM (s1 s2 : Stmt) (mr : SM) : Option SM := match s1, c.e.lam with
  | .Assign [.Name x _] (.Lambda params body scope _) _, some li => (match ixOf c.N x, ixsOf c.N (frOf scope.names) with
    | some i, some js => if isSt c x = true ∧ noDef params = true ∧ scope.names.all (fun y => !decide (y.2 = .free) || decide (c.sc.names.lookup y.1 = some .cell) || decide (c.sc.names.lookup y.1 = some .free)) = true then
        (handM p c (lamOf li params body scope) js s2).map fun sm => sLam li.ti li.own (lamOf li params body scope) i sm mr else none
    | _, _ => none)
  | _, _ => none
def stmtsM2 : List Stmt → SM
  | [] => sNext
  | [s] => sSeq (p.S c s) sNext
  | s :: s2 :: ss => match pairM p c s s2 (stmtsM2 ss) with
    | some m => m
    | none => sSeq (p.S c s) (stmtsM2 (s2 :: ss))
def stepS2 : Stmt → SM
  | .Assign [.Attribute o f _] e _ => sFldS c.e.at_ f (p.E c o) (p.E c e)
  | .Assign [.Name x _] (.DictComp kx vx gens scope _) _ => if isSt c x = true then match ixOf c.N x with
      | some i => sSet (dcE p c kx vx gens scope) (gVar i)
      | none => sNo
    else sNo
  | st => stepS p c st
end
end MP

/-! text Mini13y -/
set_option Elab.async false
set_option linter.all false
set_option maxRecDepth 100000
set_option maxHeartbeats 4000000
/-! the text of classes, closures, dicts: it is right. -/
namespace L2
open PySem PySem.Spec PyProof.Rows
theorem swD_true {kx vx : Expr} {gs : List Comprehension} {scope : Scope} {pos py : Pos} {y : Str} {l : Nat} {env : Env} (hk : env.scope.kind = .function) (hy : env.scope.names.lookup y = some .local) (hl : (py.line == pos.line) = true)
    (ha : (scope.names.any fun (n, k) => n == y && (k == .local || k == .cell)) = false) : swapsWith (.DictComp kx vx gs scope pos) (some (.Name y py)) l env = pure true := by
  have ky : env.kindOf y = some .local := hy
  have hb : env.blockKind = .function := by unfold Env.blockKind; rw [hk]; rfl
  unfold swapsWith
  simp only [hb, ky, ha, Expr.pos, hl]
  rfl
theorem swD_false {kx vx : Expr} {gs : List Comprehension} {scope : Scope} {ps px : Pos} {x : Str} {l : Nat} {env : Env} (hk : env.scope.kind = .function)
    (h : ((env.scope.names.lookup x == some .local) && (px.line == ps.line) && !(scope.names.any fun (n, k) => n == x && (k == .local || k == .cell))) = false) : swapsWith (.DictComp kx vx gs scope ps) (some (.Name x px)) l env = pure false := by
  have hb : env.blockKind = .function := by unfold Env.blockKind; rw [hk]; rfl
  unfold swapsWith Env.kindOf
  simp only [hb, Expr.pos]
  exact congrArg pure h
section
variable {X : Cx} {i : Nat} {y : Str} {py : Pos} {kx vx tg iter : Expr} {ifs : List Expr} {scope : Scope} {own : List (Str × Nat)} {pos spos : Pos} {wi : TI} {g : TG} {tt : TT} {tk tv : TE}
theorem setD_end {pins : List (Addr × Obj)} {σ : St} {s' : Shared} {H' : Hp} {D : Ends} {L C : Addr} {m : Str → Option Value} (hN : X.N.Nodup) (hy : X.N[i]? = some y) (hyl : X.env.scope.names.lookup y = some .local) (I' : Inv X pins σ H' s') (q : D.nx (σ.set i (some (.ref L))) H') (hn : s'.heap.Ns C m) (f : FpOk X pins H' C) :
    compPost (model X.prog X.w) X.A X.xe (some (assign (.Name y py) X.env)) (fun _ s' => SP X pins D .next s') (.ref L) C (.ok .next) s' := by
  show wpAny _ _ (assign (.Name y py) X.env (.ref L)) _ _ _
  refine wpAny_assign_Name (store_ok2 (v := V.ref L) I' hN hy (.inl hyl) rfl (fun s2 I2 ⟨a, sb, ha⟩ => ?_) (.inr hyl))
  obtain ⟨f0, f1, f2, f3, f4, f5⟩ := f
  have haC : C ≠ a := by
    rcases ha with z | z
    · rw [z]; exact f1
    · exact fun e => f4 y a z e.symm
  refine ⟨m, hn.sameBut sb haC, fun h3 sb3 => ?_⟩
  exact ⟨_, H', I2.turned (t' := s2.toks) (fun b o hb e => (sb3.2 b hb).trans e) f0 f1 f3 f4 f5, q⟩
theorem ps_setDc (hc : X.calm = true) (hN : X.N.Nodup) (hy : X.N[i]? = some y) (hyl : X.env.scope.names.lookup y = some .local)
    (hsw : swapsWith (.DictComp kx vx [⟨tg, iter, ifs, 0⟩] scope pos) (some (.Name y py)) spos.line X.env = pure true) (hi : PI X tg iter wi) (ok : BlkOk X.N X.env.scope scope own)
    (hg : ∀ (s : Shared) (H : Hp) (C : Addr) (cl : List (Str × Addr)) (fp : List Addr), PG (X.blk s H scope (compEnvC scope cl C X.env) fp) tg g) (ht : ∀ (s : Shared) (H : Hp) (C : Addr) (cl : List (Str × Addr)) (fp : List Addr), PTs (X.blk s H scope (compEnvC scope cl C X.env) fp) ifs tt)
    (hk : ∀ (s : Shared) (H : Hp) (C : Addr) (cl : List (Str × Addr)) (fp : List Addr), PE (X.blk s H scope (compEnvC scope cl C X.env) fp) kx tk) (he : ∀ (s : Shared) (H : Hp) (C : Addr) (cl : List (Str × Addr)) (fp : List Addr), PE (X.blk s H scope (compEnvC scope cl C X.env) fp) vx tv) (hs : ∀ x, foldedSetIterable iter X.env x = pure x) :
    PS X (.Assign [.Name y py] (.DictComp kx vx [⟨tg, iter, ifs, 0⟩] scope pos) spos) (tAsg (tDc wi g tt tk tv (own.map (·.2))) (gName i)) := by
  refine ⟨fun pins s σ H D I h => ?_⟩
  rw [exec_Assign_Name_used _ _ _ _ hsw]
  refine wpAny_bind (wpAny_standAt (wpAny_bind ?_))
  show wpAny _ X.A (do let _ ← comprehension (.DictComp kx vx [⟨tg, iter, ifs, 0⟩] scope pos) scope X.env (firstIterPos [⟨tg, iter, ifs, 0⟩] pos) newDict false (eval iter X.env) (some (assign (.Name y py) X.env))) _ _ s
  have h : tDc wi g tt tk tv (own.map (·.2)) σ H (fun x H1 => gName i x σ H1 D.nx) := h
  exact wpAny_bind (thn (dc_core (Qf := fun _ s' => SP X pins D .next s') hc hN I hi ok hg ht hk he hs h fun L C s' m H' I' q hn f => setD_end hN hy hyl I' q hn f) fun _ s' hq => wpAny_pure (wpAny_pure hq))
theorem ps_setDct (hu : X.A.units + 1 < cLine) (hc : X.calm = true) (hN : X.N.Nodup) (hy : X.N[i]? = some y) (hyl : X.env.scope.names.lookup y = some .local)
    (hsw : swapsWith (.DictComp kx vx [⟨tg, iter, ifs, 0⟩] scope pos) (some (.Name y py)) spos.line X.env = pure true) (hi : PI X tg iter wi) (ok : BlkOk X.N X.env.scope scope own)
    (hg : ∀ (s : Shared) (H : Hp) (C : Addr) (cl : List (Str × Addr)) (fp : List Addr), PG (X.blk s H scope (compEnvC scope cl C X.env) fp) tg g) (ht : ∀ (s : Shared) (H : Hp) (C : Addr) (cl : List (Str × Addr)) (fp : List Addr), PTs (X.blk s H scope (compEnvC scope cl C X.env) fp) ifs tt)
    (hk : ∀ (s : Shared) (H : Hp) (C : Addr) (cl : List (Str × Addr)) (fp : List Addr), PE (X.blk s H scope (compEnvC scope cl C X.env) fp) kx tk) (he : ∀ (s : Shared) (H : Hp) (C : Addr) (cl : List (Str × Addr)) (fp : List Addr), PE (X.blk s H scope (compEnvC scope cl C X.env) fp) vx tv) (hs : ∀ x, foldedSetIterable iter X.env x = pure x) :
    PS X (.Assign [.Name y py] (.DictComp kx vx [⟨tg, iter, ifs, 0⟩] scope pos) spos) (tAsg (tDcT wi g tt tk tv (own.map (·.2))) (gName i)) := by
  refine ⟨fun pins s σ H D I h => ?_⟩
  rw [exec_Assign_Name_used _ _ _ _ hsw]
  refine wpAny_bind (wpAny_standAt (wpAny_bind ?_))
  show wpAny _ X.A (do let _ ← comprehension (.DictComp kx vx [⟨tg, iter, ifs, 0⟩] scope pos) scope X.env (firstIterPos [⟨tg, iter, ifs, 0⟩] pos) newDict false (eval iter X.env) (some (assign (.Name y py) X.env))) _ _ s
  have h : tDcT wi g tt tk tv (own.map (·.2)) σ H (fun x H1 => gName i x σ H1 D.nx) := h
  exact wpAny_bind (thn (dct_core (Qf := fun _ s' => SP X pins D .next s') hu hc hN I hi ok hg ht hk he hs h fun L C s' m H' I' q hn f => setD_end hN hy hyl I' q hn f) fun _ s' hq => wpAny_pure (wpAny_pure hq))
end
end L2
namespace MP
open PySem PySem.Spec PyProof.Rows
open L2 hiding St
section
variable {p : CP} {c : CT} {X : Cx} {e : Expr} {es : List Expr} {pos : Pos}
theorem fld_ok (P : CPok p) (ok : CtOk c X) (o : Expr) (f : Str) : PE X (.Attribute o f pos) (tEm X.K (fldE p c o f)) := by
  unfold fldE
  split
  · rename_i h
    exact pe_fld2 ok.e.at_ (P.E c X o ok) (plain_base h)
  · exact pe_no
theorem cmpD_ok {op : CmpOp} {g : O2} (hu : X.A.units + 65 < cLine) (h : cmpD op = some g) : OpR X (compareOp op) (g2 X.K g) := by
  cases op <;> first | (cases h; done) | skip
  · cases h; exact ltDk_ok hu
  · cases h; exact inDk_ok hu
  · cases h; exact notInDk_ok hu
theorem cmpE2_ok (P : CPok p) (ok : CtOk c X) (a : Expr) (ops : List CmpOp) (bs : List Expr) : PE X (.Compare a ops bs pos) (tEm X.K (cmpE2 p c a ops bs)) := by
  unfold cmpE2
  split
  · split
    · rename_i g hg
      split
      · rename_i h
        exact pe_cmp2 (cmpD_ok ok.hu hg) (P.E c X _ ok) (P.E c X _ ok) (set_marks h)
      · exact pe_no
    · exact cmpE_ok P ok _ _ _
  · exact cmpE_ok P ok _ _ _
theorem cmpT2_ok (P : CPok p) (ok : CtOk c X) (a : Expr) (ops : List CmpOp) (bs : List Expr) : PT X (.Compare a ops bs pos) (tBm X.K (bBool (cmpE2 p c a ops bs))) := by
  unfold cmpE2
  split
  · split
    · rename_i g hg
      split
      · rename_i h
        exact pt_cmp2 (cmpD_ok ok.hu hg) (P.E c X _ ok) (P.E c X _ ok) (set_marks h)
      · exact pt_noE
    · exact cmpT_ok P ok _ _ _
  · exact cmpT_ok P ok _ _ _
theorem sub2_ok (P : CPok p) (ok : CtOk c X) (a b : Expr) : PE X (.Subscript a b pos) (tEm X.K (subE2 p c a b)) := by
  unfold subE2
  split
  · rename_i h
    have := ok.hu
    exact pe_ixD (by omega) (P.E c X a ok) (P.E c X b ok) (plain_ix h.2)
  · exact sub_ok' P ok _ _
theorem call2_ok (P : CPok p) (ok : CtOk c X) {fp : Pos} (x : Str) (es : List Expr) : PE X (.Call (.Name x fp) es [] pos) (tEm X.K (callE2 p c x es)) := by
  unfold callE2
  split
  · rename_i hv
    split
    · rename_i h
      obtain ⟨h1, h2, h3, h4⟩ := h
      split
      · rename_i i hi
        cases es with
        | nil => exact absurd rfl h2
        | cons e es =>
          have h1' := h1
          rw [List.all_cons, Bool.and_eq_true] at h1'
          exact pe_cv ok.e.V ok.e.L (by rw [ok.N]; exact ixOf_ok hi) (ok.vis hv) (args_ok P ok h1) h3 h4 (star_one h1'.1) (star_any h1'.2)
      · exact pe_no
    · exact pe_no
  · split
    · rename_i F hF
      split
      · rename_i h
        obtain ⟨h1, h2, h3⟩ := h
        cases es with
        | nil => exact pe_mk0 (ok.e.mp _ _ _ hF) (ok.gl h1) h3
        | cons e es =>
          have h2' := h2
          rw [List.all_cons, Bool.and_eq_true] at h2'
          exact pe_mk1 (ok.e.mp _ _ _ hF) (ok.gl h1) (args_ok P ok h2) h3 (star_one h2'.1) (star_any h2'.2)
      · exact pe_no
    · exact call_ok' P ok _ _
theorem kws_ok (P : CPok p) (ok : CtOk c X) : ∀ kws : List Keyword, PK X kws (tAm X.K (kwsM p c kws))
  | [] => pk_0
  | ⟨a, v, q⟩ :: r => pk_1 (P.E c X v ok) (kws_ok P ok r)
theorem mkE_ok (P : CPok p) (ok : CtOk c X) {fp : Pos} (x : Str) (es : List Expr) (kws : List Keyword) : PE X (.Call (.Name x fp) es kws pos) (tEm X.K (mkE p c x es kws)) := by
  unfold mkE
  split
  · rename_i ks hk
    split
    · rename_i as F hF
      split
      · rename_i h
        obtain ⟨h1, h2, h3⟩ := h
        cases es with
        | nil => exact pe_mkK0 (ok.e.mkk _ _ _ _ _ hF) (ok.gl h1) (kws_ok P ok kws) (kw_all hk) (kw_ks hk) h3 (by
            rw [kw_none hk]
            rfl)
        | cons e es =>
          have h2' := h2
          rw [List.all_cons, Bool.and_eq_true] at h2'
          exact pe_mkK (ok.e.mkk _ _ _ _ _ hF) (ok.gl h1) (args_ok P ok h2) (kws_ok P ok kws) (kw_all hk) (kw_ks hk) h3 (star_one h2'.1) (by
            rw [kw_none hk, star_any h2]
            rfl)
      · exact pe_no
    · exact pe_no
  · exact pe_no
theorem m2_ok {o a b : Expr} {apos : Pos} (h1 : plainBase o = true) (h2 : notStar a = true) (h3 : notStar b = true) (h4 : (apos.endLine == pos.line) = true) : M2 X o "get" apos a b pos := by
  have hs : [a, b].all notStar = true := by rw [List.all_cons, List.all_cons, h2, h3]; rfl
  refine ⟨plain_base h1, ?_, h4, ?_⟩
  · rw [star_all hs]
    rfl
  · rw [star_one h2, star_one h3]
    rfl
theorem get_ok (P : CPok p) (ok : CtOk c X) {o a b : Expr} {apos : Pos} (m : M2 X o "get" apos a b pos) : PE X (.Call (.Attribute o "get" apos) [a, b] [] pos) (tEm X.K (getE p c o a b)) := by
  have hu := ok.hu
  unfold getE
  split
  · split
    · rename_i h
      exact pe_get2T (by omega) (P.E c X o ok) (pk_tup (args_ok P ok h)) (P.E c X b ok) m
    · exact pe_no
  · exact pe_get2 (by omega) (P.E c X o ok) (P.E c X _ ok) (P.E c X b ok) m
theorem meth2_ok (P : CPok p) (ok : CtOk c X) (o : Expr) (m : Str) (apos : Pos) (es : List Expr) : PE X (.Call (.Attribute o m apos) es [] pos) (tEm X.K (methE2 p c o m apos es pos)) := by
  unfold methE2
  split
  · rename_i cs hcs
    split
    · rename_i h
      obtain ⟨h1, h2, h3, h4⟩ := h
      cases es with
      | nil => exact pe_methI0 (ok.e.ms _ _ _ hcs) (P.E c X o ok) (meth_form h1 (few_ok h2 h3) h4)
      | cons e es =>
        have h2' := h2
        rw [List.all_cons, Bool.and_eq_true] at h2'
        exact pe_methI (ok.e.ms _ _ _ hcs) (P.E c X o ok) (args_ok P ok h2) (star_one h2'.1) (star_any h2'.2) (meth_form h1 (few_ok h2 h3) h4)
    · exact pe_no
  · split
    · rename_i h
      obtain ⟨_, rfl⟩ := h
      split
      · split
        · rename_i h
          obtain ⟨h1, h2, h3, h4⟩ := h
          exact get_ok P ok (m2_ok h1 h2 h3 h4)
        · exact pe_no
      · exact pe_no
    · exact meth_ok' P ok _ _ _ _
theorem key_ok (P : CPok p) (ok : CtOk c X) {e : Expr} {mk : KM} (h : keyK p c e = some mk) : PE X e (tKey X.K mk) := by
  unfold keyK at h
  split at h
  · split at h
    · rename_i hs
      cases h
      exact pk_tup (args_ok P ok hs)
    · cases h
  · cases h
    exact pk_sl (P.E c X _ ok) (part_ok P ok _) (part_ok P ok _)
  · cases h
theorem dc_ok (P : CPok p) (ok : CtOk c X) (kx vx : Expr) (gens : List Comprehension) (scope : Scope) : PE X (.DictComp kx vx gens scope pos) (tEm X.K (dcE p c kx vx gens scope)) := by
  have hu := ok.hu
  unfold dcE
  split
  · rename_i tg it ifs
    split
    · rename_i h
      obtain ⟨h1, h2, h3, h4⟩ := h
      have hk := own_kind h1
      have hb : BlkOk X.N X.env.scope scope (ownOf c.N scope.names) := by rw [ok.N, ok.sc]; exact blkOk_by h1
      split
      · rename_i mk hmk
        exact (pe_dct (g := tGm X.K _ _) (by omega) ok.calm (by rw [ok.N]; exact ok.nd) (P.I c X tg it ok) hb (fun s H C cl fp => P.G (c.blk scope) _ tg (ok.blk scope hk s H C cl fp)) (fun s H C cl fp => tests_ok P (ok.blk scope hk s H C cl fp) ifs h4)
          (fun s H C cl fp => key_ok P (ok.blk scope hk s H C cl fp) hmk) (fun s H C cl fp => P.E (c.blk scope) _ vx (ok.blk scope hk s H C cl fp)) (fun x => set_fold h2 x)).imp fun σ H Q t => dct_to (fun i hi => of_decide_eq_true (List.all_eq_true.mp h3 i hi)) t
      · exact (pe_dc (g := tGm X.K _ _) ok.calm (by rw [ok.N]; exact ok.nd) (P.I c X tg it ok) hb (fun s H C cl fp => P.G (c.blk scope) _ tg (ok.blk scope hk s H C cl fp)) (fun s H C cl fp => tests_ok P (ok.blk scope hk s H C cl fp) ifs h4)
          (fun s H C cl fp => P.E (c.blk scope) _ kx (ok.blk scope hk s H C cl fp)) (fun s H C cl fp => P.E (c.blk scope) _ vx (ok.blk scope hk s H C cl fp)) (fun x => set_fold h2 x)).imp fun σ H Q t => dc_to (fun i hi => of_decide_eq_true (List.all_eq_true.mp h3 i hi)) t
    · exact pe_no
  · exact pe_no
theorem dnew_ok : PE X (.Dict [] [] pos) (tEm X.K mDNew) := pe_dnewK.imp fun σ H Q ⟨μ, ρ, h, d, h', R, N, e, k⟩ => by
  cases e
  intro a ha
  obtain ⟨R1, S1⟩ := R.alloc (u' := .dK []) (o' := .dK []) ha ⟨[], upd_same, .nil⟩
  refine k _ _ _ R1 S1 (.loc ?_)
  rw [List.getElem?_append_right (by rw [R.len]; exact Nat.le_refl _), R.len, Nat.sub_self]
  rfl
theorem stepE2_ok (P : CPok p) (ok : CtOk c X) (e : Expr) : PE X e (tEm X.K (stepE2 p c e)) := by
  unfold stepE2
  split
  · exact fld_ok P ok _ _
  · exact cmpE2_ok P ok _ _ _
  · exact sub2_ok P ok _ _
  · exact call2_ok P ok _ _
  · exact mkE_ok P ok _ _ _
  · exact meth2_ok P ok _ _ _ _
  · exact dc_ok P ok _ _ _ _
  · exact dnew_ok
  · exact stepE_ok P ok _
theorem stepT2_ok (P : CPok p) (ok : CtOk c X) (e : Expr) : PT X e (tBm X.K (stepT2 p c e)) := by
  unfold stepT2
  split
  · exact cmpT2_ok P ok _ _ _
  · exact stepT_ok P ok _
theorem hand_ok (P : CPok p) (ok : CtOk c X) {t : LamT} {js : List Nat} {cl : List (Str × Addr)} {st : Stmt} {sm : Nat → SM} (cp : X.Ok → NdefX.Caps X cl t.fr js) (hfn : ∀ x, X.fn x = true) (h : handM p c t js st = some sm) : PS X st (tKS X.K t cl sm) := by
  unfold handM at h
  split at h
  · split at h
    · rename_i G F hG hF
      split at h
      · rename_i hh
        obtain ⟨h1, h2, h3, h4, h5, h6⟩ := hh
        cases h
        have h4' := h4
        rw [List.all_cons, Bool.and_eq_true] at h4'
        exact ps_handA (ok.T _ _ _ hG) (ok.gl h1) (P.E c X _ ok) (pe_inC (ok.T _ _ _ hF) (ok.gl h2) cp hfn (args_ok P ok h4) h6 (star_one h4'.1) (star_any h4'.2)) h5 (star_one h3) (star_one rfl) (star_any rfl) rfl
      · cases h
    · cases h
  · split at h
    · rename_i j F hj hF
      split at h
      · rename_i hh
        obtain ⟨h1, h2, h4, h6⟩ := hh
        cases h
        have h4' := h4
        rw [List.all_cons, Bool.and_eq_true] at h4'
        obtain ⟨s1, s2⟩ := ok.st h1
        exact ps_handB (pe_inC (ok.T _ _ _ hF) (ok.gl h2) cp hfn (args_ok P ok h4) h6 (star_one h4'.1) (star_any h4'.2)) (by rw [ok.N]; exact ok.nd) (by rw [ok.N]; exact ixOf_ok hj) s1 rfl s2
      · cases h
    · cases h
  · cases h
theorem pair_ok (P : CPok p) (ok : CtOk c X) {s1 s2 : Stmt} {rest : List Stmt} {mr m : SM} (hr : PSs X rest (tSm X.K mr)) (h : pairM p c s1 s2 mr = some m) : PSs X (s1 :: s2 :: rest) (tSm X.K m) := by
  unfold pairM at h
  split at h
  · rename_i x px params body scope pl pos' li hli
    split at h
    · rename_i i js hi hjs
      split at h
      · rename_i hh
        obtain ⟨h1, h2, h3⟩ := hh
        cases hs : handM p c (lamOf li params body scope) js s2 with
        | none => rw [hs] at h; cases h
        | some sm =>
          rw [hs] at h
          cases h
          obtain ⟨eq, ⟨cA, hcode, TB⟩, hfn⟩ := ok.e.lam li hli
          obtain ⟨st1, st2⟩ := ok.st h1
          have hfree : ∀ y ∈ scope.names, y.2 = .free → X.env.scope.names.lookup y.1 = some .cell ∨ X.env.scope.names.lookup y.1 = some .free := fun y hy e => by
            have := List.all_eq_true.mp h3 y hy
            simp only [Bool.or_eq_true, Bool.not_eq_true', decide_eq_true_eq, decide_eq_false_iff_not] at this
            rw [ok.sc]
            rcases this with (z | z) | z
            · exact absurd e z
            · exact .inl z
            · exact .inr z
          exact pss_lam (t := lamOf li params body scope) TB hcode (by rw [eq]; rfl) (noDef_ok h2) hfree (by rw [ok.N]; exact ok.nd) (by rw [ok.N]; exact ixOf_ok hi) st1 st2 rfl
            (hand_ok P ok (fun k => NdefX.Caps.made k hfree (fun y hy => frOf_mem hy) (by rw [ok.N]; exact ixsOf_ok hjs)) hfn hs) hr
      · cases h
    · cases h
  · cases h
theorem stmts2_ok (P : CPok p) (ok : CtOk c X) : ∀ ss : List Stmt, PSs X ss (tSm X.K (stmtsM2 p c ss))
  | [] => pss_0
  | [s] => pss_1 (P.S c X s ok) pss_0
  | s :: s2 :: ss => by
    unfold stmtsM2
    cases q : pairM p c s s2 (stmtsM2 p c ss) with
    | some m => exact pair_ok P ok (stmts2_ok P ok ss) q
    | none => exact pss_1 (P.S c X s ok) (stmts2_ok P ok (s2 :: ss))
theorem asg_dc (P : CPok p) (ok : CtOk c X) {x : Str} {px : Pos} {i : Nat} {kx vx : Expr} {gens : List Comprehension} {scope : Scope} {ps : Pos} (hs : isSt c x = true) (hi : ixOf c.N x = some i) :
    PS X (.Assign [.Name x px] (.DictComp kx vx gens scope ps) pos) (tSm X.K (sSet (dcE p c kx vx gens scope) (gVar i))) := by
  have hu := ok.hu
  obtain ⟨s1, s2⟩ := ok.st hs
  have hN : X.N.Nodup := by rw [ok.N]; exact ok.nd
  have hiN : X.N[i]? = some x := by rw [ok.N]; exact ixOf_ok hi
  have hk : X.env.scope.kind = .function := by rw [ok.sc]; exact ok.kd
  cases hsw : ((X.env.scope.names.lookup x == some .local) && (px.line == ps.line) && !(scope.names.any fun (n, k) => n == x && (k == .local || k == .cell))) with
  | false => exact ps_set2 hN hiN s1 (dc_ok P ok kx vx gens scope) (swD_false hk hsw) s2
  | true =>
    rw [Bool.and_eq_true, Bool.and_eq_true, Bool.not_eq_true', beq_iff_eq] at hsw
    obtain ⟨⟨w1, w2⟩, w3⟩ := hsw
    have hsw' : ∀ {kx vx : Expr} {gens : List Comprehension}, swapsWith (.DictComp kx vx gens scope ps) (some (.Name x px)) pos.line X.env = pure true := swD_true hk w1 w2 w3
    unfold dcE
    split
    · rename_i tg it ifs
      split
      · rename_i h
        obtain ⟨h1, h2, h3, h4⟩ := h
        have hk2 := own_kind h1
        have hb : BlkOk X.N X.env.scope scope (ownOf c.N scope.names) := by rw [ok.N, ok.sc]; exact blkOk_by h1
        split
        · rename_i mk hmk
          refine (ps_setDct (g := tGm X.K _ _) (tt := tBm X.K (testsM p (c.blk scope) ifs)) (tk := tKey X.K mk) (tv := tEm X.K (p.E (c.blk scope) vx)) (by omega) ok.calm hN hiN w1 hsw' (P.I c X tg it ok) hb (fun s H C cl fp => P.G (c.blk scope) _ tg (ok.blk scope hk2 s H C cl fp)) (fun s H C cl fp => tests_ok P (ok.blk scope hk2 s H C cl fp) ifs h4)
            (fun s H C cl fp => key_ok P (ok.blk scope hk2 s H C cl fp) hmk) (fun s H C cl fp => P.E (c.blk scope) _ vx (ok.blk scope hk2 s H C cl fp)) (fun x => set_fold h2 x)).imp fun D σ H t => ?_
          obtain ⟨μ, ρ, h, f, ρ', h', R, N, e, k⟩ := t
          obtain ⟨⟨x0, h10⟩, e1, e⟩ := bind_some e
          cases e
          exact dct_to (fun i hi => of_decide_eq_true (List.all_eq_true.mp h3 i hi)) ⟨μ, ρ, h, x0, h10, R, N, e1, fun μ1 H1 vx R1 S1 rx => k μ1 H1 R1 S1 _ ((N.mono S1).set rx i)⟩
        · refine (ps_setDc (g := tGm X.K _ _) (tt := tBm X.K (testsM p (c.blk scope) ifs)) (tk := tEm X.K (p.E (c.blk scope) kx)) (tv := tEm X.K (p.E (c.blk scope) vx)) ok.calm hN hiN w1 hsw' (P.I c X tg it ok) hb (fun s H C cl fp => P.G (c.blk scope) _ tg (ok.blk scope hk2 s H C cl fp)) (fun s H C cl fp => tests_ok P (ok.blk scope hk2 s H C cl fp) ifs h4)
            (fun s H C cl fp => P.E (c.blk scope) _ kx (ok.blk scope hk2 s H C cl fp)) (fun s H C cl fp => P.E (c.blk scope) _ vx (ok.blk scope hk2 s H C cl fp)) (fun x => set_fold h2 x)).imp fun D σ H t => ?_
          obtain ⟨μ, ρ, h, f, ρ', h', R, N, e, k⟩ := t
          obtain ⟨⟨x0, h10⟩, e1, e⟩ := bind_some e
          cases e
          exact dc_to (fun i hi => of_decide_eq_true (List.all_eq_true.mp h3 i hi)) ⟨μ, ρ, h, x0, h10, R, N, e1, fun μ1 H1 vx R1 S1 rx => k μ1 H1 R1 S1 _ ((N.mono S1).set rx i)⟩
      · exact ps_noSet
    · exact ps_noSet
theorem stepS2_ok (P : CPok p) (ok : CtOk c X) (st : Stmt) : PS X st (tSm X.K (stepS2 p c st)) := by
  unfold stepS2
  split
  · exact ps_fld2 ok.e.at_ (P.E c X _ ok) (P.E c X _ ok) swaps_att
  · split
    · rename_i h
      split
      · rename_i i hi
        exact asg_dc P ok h hi
      · exact ps_no
    · exact ps_no
  · exact stepS_ok P ok _
end
noncomputable def CP.next (p : CP) : CP := ⟨stepE2 p, stepT2 p, iterM p, stepG p, stepJ p, stepS2 p⟩
theorem next_ok {p : CP} (P : CPok p) : CPok p.next where
  E := fun c X e ok => stepE2_ok P ok e
  T := fun c X e ok => stepT2_ok P ok e
  I := fun c X tg it ok => iter_ok P ok tg it
  G := fun c X tg ok => stepG_ok P ok tg
  S := fun c X st ok => stepS2_ok P ok st
noncomputable def comp : Nat → CP
  | 0 => .zero
  | n + 1 => (comp n).next
theorem comp_ok : ∀ n, CPok (comp n)
  | 0 => zero_ok
  | n + 1 => next_ok (comp_ok n)
end MP

/-! text Mini13z -/
set_option Elab.async false
set_option linter.all false
set_option maxRecDepth 100000
set_option maxHeartbeats 4000000
namespace MP
open PySem PySem.Spec PyProof.Rows
open L2 hiding St
/-! ### a def -/
/-- what a def's body gives, by its statements -/
noncomputable def runF (m : SM) (size : Nat) : ON := fun ds h => match m (ds.map some ++ List.replicate (size - ds.length) none) h with
  | some (.rt d, _, h') => some (d, h')
  | some (.nx, _, h') => some (.non, h')
  | _ => none
/-- the def at st with N's slots, read by these tables -/
noncomputable def defME (n : Nat) (N : List Str) (C : List (Str × D)) (B : List Str) (T : List ((Str × Nat) × ON)) (e : CtE) (scope : Scope) (body : List Stmt) : SM := stmtsM2 (comp n) ⟨N, scope, none, C, B, T, e⟩ body
/-- .. one that has no such things -/
noncomputable def defM (n : Nat) (N : List Str) (C : List (Str × D)) (B : List Str) (T : List ((Str × Nat) × ON)) (st : Stmt) : SM := defME n N C B T {} (defScope st) (defBody st)
/-- a lambda's body -/
noncomputable def lamM (n : Nat) (N : List Str) (C : List (Str × D)) (B : List Str) (T : List ((Str × Nat) × ON)) (e : CtE) (t : LamT) : ON := fun ds h => (comp n).E ⟨N, t.scope, some t.scope.names, C, B, T, e⟩ t.body (ds.map some ++ List.replicate (N.length - ds.length) none) h
section
variable {P : Program} {w : World} {K : PySem.W.Frag} {mg : Str → Option Value} {base : Heap}
/-- the constants, the built-in names: what is known of the module -/
structure ModOk (K : PySem.W.Frag) (mg : Str → Option Value) (C : List (Str × D)) (B : List Str) : Prop where
  C : ∀ x d, C.lookup x = some d → ∃ u v, mg x = some u ∧ RelV v u ∧ ∀ H μ, RV K H μ d v
  B : ∀ x, x ∈ B → mg x = none
/-- a def of the table, at level k -/
structure TFok (P : Program) (w : World) (K : PySem.W.Frag) (mg : Str → Option Value) (base : Heap) (k : Nat) (x : Str) (n : Nat) (F : ON) : Prop where
  ex : ∃ (f : Addr) (fd : FuncData) (ps : List Str) (ds : List Value) (dvs : List V) (sp : Sp), FnOk P w K mg base CX0 k f fd ps sp ∧ mg x = some (.ref f) ∧ PySem.W.keepIn K (.ref f) = true ∧ Binds K fd ps ds ∧ Vals dvs ds ∧
    ∀ vs H Q, vs.length = n → gN K F vs H Q → sp (vs ++ dvs) H Q E0
theorem TFok.mono {j k : Nat} {x : Str} {n : Nat} {F : ON} (t : TFok P w K mg base j x n F) (h : j ≤ k) : TFok P w K mg base k x n F := by
  obtain ⟨f, fd, ps, ds, dvs, sp, G, r⟩ := t.ex
  exact ⟨f, fd, ps, ds, dvs, sp, G.mono h, r⟩
theorem TFok.at {A : Around} {k : Nat} {x : Str} {n : Nat} {F : ON} (t : TFok P w K mg base k x n F) (hr : Room k A) : FOk P w K mg base A x n F := by
  obtain ⟨f, fd, ps, ds, dvs, sp, G, r⟩ := t.ex
  exact ⟨k, f, fd, ps, ds, dvs, sp, G, hr, r⟩
theorem rvs_start {H : Hp} {μ : List Addr} {ds : List D} {vs : List V} {N : List Str} (r : RVs K H μ ds vs) : REnv K H μ (ds.map some ++ List.replicate (N.length - ds.length) none) (L2.start N vs) := by
  have hl := r.length
  refine ⟨by unfold L2.start; simp [hl], fun i d e => ?_⟩
  by_cases hi : i < ds.length
  · rw [List.getElem?_append_left (by rw [List.length_map]; exact hi), List.getElem?_map] at e
    cases q : ds[i]? with
    | none => rw [q] at e; cases e
    | some d' =>
      rw [q] at e
      cases e
      obtain ⟨v, hv, rv⟩ := r.get q
      refine ⟨v, ?_, rv⟩
      unfold L2.start
      rw [List.getElem?_append_left (by rw [List.length_map, ← hl]; exact hi), List.getElem?_map, hv]
      rfl
  · rw [List.getElem?_append_right (by rw [List.length_map]; omega), List.length_map, List.getElem?_replicate] at e
    split at e <;> cases e
/-! ### what a module tells, at the level k -/
structure TMOk (P : Program) (w : World) (K : PySem.W.Frag) (mg : Str → Option Value) (base : Heap) (k : Nat) (c m : Str) (n : Nat) (F : ON) : Prop where
  ex : ∃ (f : Addr) (fd : FuncData) (ps : List Str) (ds : List Value) (dvs : List V) (sp : Sp), Cls K (He.ga K c) ∧ Meth K (He.ga K c) m f ∧ FnOk P w K mg base CX0 k f fd ps sp ∧ Binds K fd ps ds ∧ Vals dvs ds ∧
    ∀ vs H Q, vs.length = n + 1 → gN K F vs H Q → sp (vs ++ dvs) H Q E0
structure TMk (P : Program) (w : World) (K : PySem.W.Frag) (mg : Str → Option Value) (base : Heap) (k : Nat) (c : Str) (n : Nat) (F : ON) : Prop where
  ex : ∃ (f : Addr) (fd : FuncData) (ps : List Str) (ds : List Value) (dvs : List V) (sp : Sp), Mk K (He.ga K c) f ∧ (∃ j, k = j + 1 ∧ FnOk P w K mg base CX0 j f fd ps sp) ∧ mg c = some (.ref (He.ga K c)) ∧ Binds K fd ps ds ∧ Vals dvs ds ∧
    ∀ vs H Q, vs.length = n + 1 → gN K F vs H Q → sp (vs ++ dvs) H Q E0
structure TMkK (P : Program) (w : World) (K : PySem.W.Frag) (mg : Str → Option Value) (base : Heap) (k : Nat) (c : Str) (n : Nat) (ks : List Str) (as : List ASrc) (F : ON) : Prop where
  ex : ∃ (f : Addr) (fd : FuncData) (ps : List Str) (sp : Sp) (g : List Value → List Value → List Value) (gV : List V → List V → List V), Mk K (He.ga K c) f ∧ (∃ j, k = j + 1 ∧ FnOk P w K mg base CX0 j f fd ps sp) ∧ mg c = some (.ref (He.ga K c)) ∧ KBn K fd ps (n + 1) ks g gV ∧
    ∀ (x : V) (us zs : List V) (du dz ds : List D) (H : Hp) (μ : List Addr), RVs K H μ du us → RVs K H μ dz zs → us.length = n → zs.length = ks.length → srcs du dz as = some ds → ∃ vs, RVs K H μ ds vs ∧ gV (x :: us) zs = x :: vs ∧ ∀ Q, gN K F (x :: vs) H Q → sp (x :: vs) H Q E0
/-- a def that is a value -/
structure TV (P : Program) (w : World) (K : PySem.W.Frag) (mg : Str → Option Value) (base : Heap) (k : Nat) (x : Str) (n : Nat) (F : ON) : Prop where
  t : TFok P w K mg base k x n F
  at_ : mg x = some (.ref (He.ga K x))
section
variable {k j n : Nat} {c m x : Str} {ks : List Str} {as : List ASrc} {F : ON} {A : Around}
theorem TMOk.mono (t : TMOk P w K mg base j c m n F) (h : j ≤ k) : TMOk P w K mg base k c m n F := by
  obtain ⟨f, fd, ps, ds, dvs, sp, a, b, G, r⟩ := t.ex
  exact ⟨f, fd, ps, ds, dvs, sp, a, b, G.mono h, r⟩
theorem TMOk.at (t : TMOk P w K mg base k c m n F) (hr : Room k A) : OMOk P w K mg base A c m n F := by
  obtain ⟨f, fd, ps, ds, dvs, sp, a, b, G, r⟩ := t.ex
  exact ⟨k, f, fd, ps, ds, dvs, sp, a, b, G, hr, r⟩
theorem TMk.mono (t : TMk P w K mg base j c n F) (h : j ≤ k) : TMk P w K mg base k c n F := by
  obtain ⟨f, fd, ps, ds, dvs, sp, a, ⟨i, e, G⟩, r⟩ := t.ex
  exact ⟨f, fd, ps, ds, dvs, sp, a, ⟨k - 1, by omega, G.mono (by omega)⟩, r⟩
theorem TMk.at (t : TMk P w K mg base k c n F) (hr : Room k A) : MkOk P w K mg base A c n F := by
  obtain ⟨f, fd, ps, ds, dvs, sp, a, ⟨i, e, G⟩, r⟩ := t.ex
  exact ⟨i, f, fd, ps, ds, dvs, sp, a, G, e ▸ hr, r⟩
theorem TMkK.mono (t : TMkK P w K mg base j c n ks as F) (h : j ≤ k) : TMkK P w K mg base k c n ks as F := by
  obtain ⟨f, fd, ps, sp, g, gV, a, ⟨i, e, G⟩, r⟩ := t.ex
  exact ⟨f, fd, ps, sp, g, gV, a, ⟨k - 1, by omega, G.mono (by omega)⟩, r⟩
theorem TMkK.at (t : TMkK P w K mg base k c n ks as F) (hr : Room k A) : MkKOk P w K mg base A c n ks as F := by
  obtain ⟨f, fd, ps, sp, g, gV, a, ⟨i, e, G⟩, r⟩ := t.ex
  exact ⟨i, f, fd, ps, sp, g, gV, a, G, e ▸ hr, r⟩
end
structure MeOk (P : Program) (w : World) (K : PySem.W.Frag) (mg : Str → Option Value) (base : Heap) (k : Nat) (e : CtE) : Prop where
  at_ : AtsOk K e.at_
  ms : ∀ m n cs, e.ms.lookup (m, n) = some cs → ∀ c F, cs.lookup c = some F → TMOk P w K mg base k c m n F
  mp : ∀ x n F, e.mp.lookup (x, n) = some F → TMk P w K mg base k x n F
  mkk : ∀ x n ks as F, e.mkk.lookup (x, n, ks) = some (as, F) → TMkK P w K mg base k x n ks as F
  V : ∀ y m F, e.V.lookup (y, m) = some F → TV P w K mg base k y m F
  L : ∀ t m G, e.L t m = some G → CloOk P w K mg base k t m G
  lam : ∀ li, e.lam = some li → LamX.TabB base mg (He.cT K li.own).1 (He.cT K li.own).2
theorem MeOk.none {k : Nat} : MeOk P w K mg base k ({} : CtE) := ⟨⟨fun _ _ h => (nomatch h)⟩, fun _ _ _ h => (nomatch h), fun _ _ _ h => (nomatch h), fun _ _ _ _ _ h => (nomatch h), fun _ _ _ h => (nomatch h), fun _ _ _ h => (nomatch h), fun _ h => (nomatch h)⟩
/-! ### a def -/
theorem defE_len {sp : Sp} {f : Addr} {fd : FuncData} {ps : List Str} {k : Nat} (o : FnOk P w K mg base CX0 k f fd ps sp) : True := trivial
/-- THE RULE for a def -/
theorem defE_ok {x qual : Str} {params : Arguments} {body : List Stmt} {scope : Scope} {dvs : List V} {kws : List (Str × V)} {f : Addr} {fd : FuncData} {N ps : List Str} {C : List (Str × D)} {B : List Str} {T : List ((Str × Nat) × ON)} {e : CtE} {k n : Nat}
    (F : FunD K x qual params body scope dvs kws f fd) (S : FnScope N ps scope) (hm : ModOk K mg C B) (hT : ∀ y m G, T.lookup (y, m) = some G → TFok P w K mg base k y m G) (hE : MeOk P w K mg base k e) (hl : ∀ li, e.lam = some li → f = He.fAd K li.own ∧ li.qual = qual ++ ".<locals>.") :
    FnOk P w K mg base CX0 (k + 1) f fd ps (spF K ps.length (runF (defME n N C B T e scope body) N.length)) := by
  obtain ⟨oc, od, dV, kV, doc, pm, an, cdv, ct, osl, rfl, lk, hcd, _, _⟩ := F.ex
  refine fn_of lk hcd S (fun vs H Q E h => h.1) fun A outer s H vs Q E hr h => ?_
  refine ⟨_, PSs.nox (stmts2_ok (c := ⟨N, scope, none, C, B, T, e⟩) (comp_ok n) ?_ _), ?_⟩
  · exact {
      N := rfl
      nd := S.nd
      kd := S.kind
      sc := rfl
      fn := fun _ => rfl
      calm := rfl
      xe := rfl
      hu := by
        have := hr.un
        show (A.deeper _).units + 65 < cLine
        omega
      C := hm.C
      B := hm.B
      T := fun y m G e => (hT y m G e).at hr
      e := ⟨hE.at_, fun m n cs h1 c F h2 => (hE.ms m n cs h1 c F h2).at hr, fun x n F h => (hE.mp x n F h).at hr, fun x n ks as F h => (hE.mkk x n ks as F h).at hr, fun y m F h => ⟨(hE.V y m F h).t.at hr, (hE.V y m F h).at_⟩, fun t m G h => ⟨k, hE.L t m G h, hr⟩, fun li h => ⟨(hl li h).2.symm, by
        obtain ⟨c, ec⟩ := He.codeIn_ref hcd
        refine ⟨c, ec, ?_⟩
        have := hE.lam li h
        have e2 : (He.cT K li.own).1 = c := by
          show He.codeOf K li.own = c
          exact He.codeOf_eq ((hl li h).1 ▸ lk) ec
        rw [← e2]
        exact this, fun _ => rfl⟩⟩ }
  · obtain ⟨hl, μ, h0, ds, d, h', R, r, e, kk⟩ := h
    unfold runF at e
    split at e
    · rename_i d0 ρ' h1 e1
      cases e
      exact ⟨μ, _, h0, _, _, _, R, rvs_start r, e1, fun μ1 H1 R1 S1 v rv => kk μ1 H1 v R1 S1 rv⟩
    · rename_i ρ' h1 e1
      cases e
      exact ⟨μ, _, h0, _, _, _, R, rvs_start r, e1, fun μ1 H1 R1 S1 σ' _ => kk μ1 H1 .non R1 S1 .non⟩
    · cases e
/-- THE RULE for a lambda -/
theorem lam_ok {t : LamT} {N : List Str} {C : List (Str × D)} {B : List Str} {T : List ((Str × Nat) × ON)} {e : CtE} {k n : Nat} (S : NdefX.NScope N t.ps t.fr t.scope)
    (hbind : ∀ (cl : List (Str × Addr)) (pm ctv : Value) (c : Addr) (us : List Value), us.length = t.ps.length → bindArgs (PySem.W.kla_fn "<lambda>" t.qual t.params t.body t.scope cl pm (.ref c) ctv) ⟨us, []⟩ = pure (t.ps.zip us))
    (hm : ModOk K mg C B) (hT : ∀ y m G, T.lookup (y, m) = some G → TFok P w K mg base k y m G) (hE : MeOk P w K mg base k e) (hl : e.lam = none) : CloOk P w K mg base (k + 1) t t.ps.length (lamM n N C B T e t) :=
  clo_ok S hbind fun A outer s H f cl c hr => (comp_ok n).E ⟨N, t.scope, some t.scope.names, C, B, T, e⟩ _ _ {
    N := rfl
    nd := S.nd
    kd := S.kind
    sc := rfl
    fn := fun x => by
      show false = (t.scope.names.lookup x == some .cell)
      cases q : t.scope.names.lookup x with
      | none => rfl
      | some kd =>
        cases kd with
        | cell => exact absurd rfl (S.nocell _ (PySem.mem_of_lookup q))
        | _ => rfl
    calm := rfl
    xe := rfl
    hu := by
      have := hr.un
      show (A.deeper _).units + 65 < cLine
      omega
    C := hm.C
    B := hm.B
    T := fun y m G e => (hT y m G e).at hr
    e := ⟨hE.at_, fun m n cs h1 c F h2 => (hE.ms m n cs h1 c F h2).at hr, fun x n F h => (hE.mp x n F h).at hr, fun x n ks as F h => (hE.mkk x n ks as F h).at hr, fun y m F h => ⟨(hE.V y m F h).t.at hr, (hE.V y m F h).at_⟩, fun t m G h => ⟨k, hE.L t m G h, hr⟩, fun li h => by rw [hl] at h; cases h⟩ }
end
end MP

/-! text Mini14 -/
set_option Elab.async false
set_option linter.all false
set_option maxRecDepth 100000
set_option maxHeartbeats 4000000
namespace MP
open PySem PySem.Spec PyProof.Rows
open L2 hiding St
section
variable {P : Program} {w : World} {K : PySem.W.Frag} {mg : Str → Option Value} {base : Heap}
/-- the def's own rule, from what the head tells -/
theorem def_ofE {x : Str} {params : Arguments} {body : List Stmt} {scope : Scope} {f : Addr} {fd : FuncData} {N ps : List Str} {C : List (Str × D)} {B : List Str} {T : List ((Str × Nat) × ON)} {ce : CtE} {k n : Nat} {S : SM} (F : FunD K x x params body scope [] [] f fd) (hg : mg x = some (.ref f))
    (hb : ∀ (kV doc pm : Value) (an : Option Addr) (cdv ct : Value) (us : List Value), us.length = ps.length → bindArgs (PySem.W.fnOf x x params body scope .none kV doc pm an cdv ct) ⟨us, []⟩ = pure (ps.zip us))
    (sc : FnScope N ps scope) (hm : ModOk K mg C B) (hT : ∀ y m G, T.lookup (y, m) = some G → TFok P w K mg base k y m G) (hE : MeOk P w K mg base k ce) (hl : ∀ li, ce.lam = some li → f = He.fAd K li.own ∧ li.qual = x ++ ".<locals>.") (e : defME n N C B T ce scope body = S) : TFok P w K mg base (k + 1) x ps.length (runF S N.length) := by
  rw [← e]
  exact ⟨f, fd, ps, [], [], _, defE_ok F sc hm hT hE hl, hg, F.kp, F.bindsN hb, .nil, fun vs H Q hl q => ⟨by rw [List.append_nil]; exact hl, by rw [List.append_nil]; exact q⟩⟩
theorem def_of {x : Str} {st : Stmt} {f : Addr} {fd : FuncData} {N ps : List Str} {C : List (Str × D)} {B : List Str} {T : List ((Str × Nat) × ON)} {k n : Nat} {S : SM} (F : FunD K x x (defArgs st) (defBody st) (defScope st) [] [] f fd) (hg : mg x = some (.ref f))
    (hb : ∀ (kV doc pm : Value) (an : Option Addr) (cdv ct : Value) (us : List Value), us.length = ps.length → bindArgs (PySem.W.fnOf x x (defArgs st) (defBody st) (defScope st) .none kV doc pm an cdv ct) ⟨us, []⟩ = pure (ps.zip us))
    (sc : FnScope N ps (defScope st)) (hm : ModOk K mg C B) (hT : ∀ y m G, T.lookup (y, m) = some G → TFok P w K mg base k y m G) (e : defM n N C B T st = S) : TFok P w K mg base (k + 1) x ps.length (runF S N.length) :=
  def_ofE F hg hb sc hm hT MeOk.none (fun _ h => nomatch h) e
theorem law_ofE {x : Str} {params : Arguments} {body : List Stmt} {scope : Scope} {f : Addr} {fd : FuncData} {N ps : List Str} {C : List (Str × D)} {B : List Str} {T : List ((Str × Nat) × ON)} {ce : CtE} {k n : Nat} {S : SM} (F : FunD K x x params body scope [] [] f fd)
    (sc : FnScope N ps scope) (hm : ModOk K mg C B) (hT : ∀ y m G, T.lookup (y, m) = some G → TFok P w K mg base k y m G) (hE : MeOk P w K mg base k ce) (hl : ∀ li, ce.lam = some li → f = He.fAd K li.own ∧ li.qual = x ++ ".<locals>.") (e : defME n N C B T ce scope body = S) : FnOk P w K mg base CX0 (k + 1) f fd ps (spF K ps.length (runF S N.length)) := by
  rw [← e]
  exact defE_ok F sc hm hT hE hl
theorem law_of {x : Str} {st : Stmt} {f : Addr} {fd : FuncData} {N ps : List Str} {C : List (Str × D)} {B : List Str} {T : List ((Str × Nat) × ON)} {k n : Nat} {S : SM} (F : FunD K x x (defArgs st) (defBody st) (defScope st) [] [] f fd)
    (sc : FnScope N ps (defScope st)) (hm : ModOk K mg C B) (hT : ∀ y m G, T.lookup (y, m) = some G → TFok P w K mg base k y m G) (e : defM n N C B T st = S) : FnOk P w K mg base CX0 (k + 1) f fd ps (spF K ps.length (runF S N.length)) :=
  law_ofE F sc hm hT MeOk.none (fun _ h => nomatch h) e
/-! ### methods, constructors, lambdas -/
section
variable {c m qual : Str} {params : Arguments} {body : List Stmt} {scope : Scope} {kws : List (Str × V)} {fd : FuncData} {N ps : List Str} {C : List (Str × D)} {B : List Str} {T : List ((Str × Nat) × ON)} {ce : CtE} {k n nn : Nat} {S : SM}
theorem methI_of (hc : Cls K (He.ga K c)) (hm' : Meth K (He.ga K c) m (He.fAd K (c, some m))) (F : FunD K m qual params body scope [] [] (He.fAd K (c, some m)) fd)
    (hb : ∀ (kV doc pm : Value) (an : Option Addr) (cdv ct : Value) (us : List Value), us.length = ps.length → bindArgs (PySem.W.fnOf m qual params body scope .none kV doc pm an cdv ct) ⟨us, []⟩ = pure (ps.zip us))
    (sc : FnScope N ps scope) (hm : ModOk K mg C B) (hT : ∀ y m G, T.lookup (y, m) = some G → TFok P w K mg base k y m G) (hE : MeOk P w K mg base k ce) (hl : ce.lam = none) (hn : ps.length = nn + 1) (e : defME n N C B T ce scope body = S) : TMOk P w K mg base (k + 1) c m nn (runF S N.length) := by
  rw [← e]
  exact ⟨_, fd, ps, [], [], _, hc, hm', defE_ok F sc hm hT hE (fun li h => by rw [hl] at h; cases h), F.bindsN hb, .nil, fun vs H Q hl q => ⟨by rw [List.append_nil, hn]; exact hl, by rw [List.append_nil]; exact q⟩⟩
theorem make_of (hc : Mk K (He.ga K c) (He.fAd K (c, some "__init__"))) (hg : mg c = some (.ref (He.ga K c))) (F : FunD K "__init__" qual params body scope [] [] (He.fAd K (c, some "__init__")) fd)
    (hb : ∀ (kV doc pm : Value) (an : Option Addr) (cdv ct : Value) (us : List Value), us.length = ps.length → bindArgs (PySem.W.fnOf "__init__" qual params body scope .none kV doc pm an cdv ct) ⟨us, []⟩ = pure (ps.zip us))
    (sc : FnScope N ps scope) (hm : ModOk K mg C B) (hT : ∀ y m G, T.lookup (y, m) = some G → TFok P w K mg base k y m G) (hE : MeOk P w K mg base k ce) (hl : ce.lam = none) (hn : ps.length = nn + 1) (e : defME n N C B T ce scope body = S) : TMk P w K mg base (k + 2) c nn (runF S N.length) := by
  rw [← e]
  exact ⟨_, fd, ps, [], [], _, hc, ⟨k + 1, rfl, defE_ok F sc hm hT hE (fun li h => by rw [hl] at h; cases h)⟩, hg, F.bindsN hb, .nil, fun vs H Q hl q => ⟨by rw [List.append_nil, hn]; exact hl, by rw [List.append_nil]; exact q⟩⟩
/-- every keyword-only parameter is written -/
theorem srcs_all {us zs : List D} : ∀ {n m : Nat}, us.length = n → zs.length = m → srcs us zs ((List.range n).map ASrc.pos ++ (List.range m).map ASrc.kw) = some (us ++ zs) := by
  intro n m hu hz
  have go : ∀ (as : List ASrc) (ds : List D), as.length = ds.length → (∀ (i : Nat) (a : ASrc), as[i]? = some a → ASrc.get us zs a = ds[i]?) → srcs us zs as = some ds := by
    intro as
    induction as with
    | nil => intro ds h _; cases ds with
      | nil => rfl
      | cons d r => cases h
    | cons a as ih =>
      intro ds h g
      cases ds with
      | nil => cases h
      | cons d r =>
        have h0 : ASrc.get us zs a = some d := g 0 a rfl
        have hr : srcs us zs as = some r := ih r (by simpa using h) fun i b e => g (i + 1) b e
        unfold srcs
        rw [h0, hr]
  refine go _ _ (by simp [hu, hz]) fun i a e => ?_
  by_cases hi : i < n
  · rw [List.getElem?_append_left (by simpa using hi)] at e
    rw [List.getElem?_append_left (by omega)]
    rw [List.getElem?_map, List.getElem?_range hi] at e
    cases e
    rfl
  · have hle : n ≤ i := by omega
    rw [List.getElem?_append_right (by simpa using hle), List.length_map, List.length_range, List.getElem?_map] at e
    rw [List.getElem?_append_right (by omega), hu]
    by_cases hj : i - n < m
    · rw [List.getElem?_range hj] at e
      cases e
      rfl
    · rw [List.getElem?_eq_none (by simpa using hj)] at e
      cases e
theorem makeK_of {ks : List Str} {as : List ASrc} (hc : Mk K (He.ga K c) (He.fAd K (c, some "__init__"))) (hg : mg c = some (.ref (He.ga K c))) (F : FunD K "__init__" qual params body scope [] kws (He.fAd K (c, some "__init__")) fd)
    (hb : ∀ (kV doc pm : Value) (an : Option Addr) (cdv ct : Value) (us ws : List Value), us.length = nn + 1 → ws.length = ks.length → bindArgs (PySem.W.fnOf "__init__" qual params body scope .none kV doc pm an cdv ct) ⟨us, ks.zip ws⟩ = pure (ps.zip (us ++ ws)))
    (sc : FnScope N ps scope) (hm : ModOk K mg C B) (hT : ∀ y m G, T.lookup (y, m) = some G → TFok P w K mg base k y m G) (hE : MeOk P w K mg base k ce) (hl : ce.lam = none) (hn : ps.length = nn + 1 + ks.length) (has : as = (List.range nn).map ASrc.pos ++ (List.range ks.length).map ASrc.kw) (e : defME n N C B T ce scope body = S) :
    TMkK P w K mg base (k + 2) c nn ks as (runF S N.length) := by
  rw [← e]
  have D := defE_ok (n := n) F sc hm hT hE (fun li h => by rw [hl] at h; cases h)
  refine ⟨_, fd, ps, _, (· ++ ·), (· ++ ·), hc, ⟨k + 1, rfl, D⟩, hg, ⟨fun s us ws _ h1 h2 => ?_, fun r1 r2 => r1.append r2⟩, fun x us zs du dz ds H μ r1 r2 h1 h2 hs => ?_⟩
  · obtain ⟨oc, od, dV, kV, doc, pm, an, cdv, ct, osl, rfl, lk, hcd, hD, hK⟩ := F.ex
    rcases hD with ⟨_, rfl⟩ | ⟨e, _⟩
    · exact .of_eq (hb kV doc pm an cdv ct us ws h1 h2)
    · exact absurd rfl e
  · rw [has, srcs_all (by rw [r1.length]; exact h1) (by rw [r2.length]; exact h2)] at hs
    cases hs
    exact ⟨us ++ zs, r1.append r2, rfl, fun Q q => ⟨by rw [List.length_cons, List.length_append, h1, h2, hn]; omega, q⟩⟩
end
theorem tl_nil {k : Nat} : ∀ y m G, List.lookup (y, m) ([] : List ((Str × Nat) × ON)) = some G → TFok P w K mg base k y m G := fun _ _ _ h => nomatch h
theorem tl_cons {j k : Nat} {x : Str} {n : Nat} {F : ON} {T : List ((Str × Nat) × ON)} (t : TFok P w K mg base j x n F) (h : j ≤ k) (r : ∀ y m G, T.lookup (y, m) = some G → TFok P w K mg base k y m G) :
    ∀ y m G, List.lookup (y, m) (((x, n), F) :: T) = some G → TFok P w K mg base k y m G := fun y m G e => by
  by_cases q : (y, m) = (x, n)
  · cases q
    rw [List.lookup_cons_self] at e
    cases e
    exact t.mono h
  · rw [List.lookup_cons, beq_eq_false_iff_ne.mpr q] at e
    exact r y m G e
/-- a def that calls nothing yet (the ground of a recursion) -/
theorem tf_none {x : Str} {st : Stmt} {f : Addr} {fd : FuncData} {N ps : List Str} {n : Nat} (F : FunD K x x (defArgs st) (defBody st) (defScope st) [] [] f fd) (hg : mg x = some (.ref f))
    (hb : ∀ (kV doc pm : Value) (an : Option Addr) (cdv ct : Value) (us : List Value), us.length = ps.length → bindArgs (PySem.W.fnOf x x (defArgs st) (defBody st) (defScope st) .none kV doc pm an cdv ct) ⟨us, []⟩ = pure (ps.zip us))
    (sc : FnScope N ps (defScope st)) (hn : n = ps.length) : TFok P w K mg base 1 x n (fun _ _ => none) := by
  subst hn
  have hm : ModOk K mg [] [] := ⟨fun _ _ h => (nomatch h), fun _ h => (nomatch h)⟩
  obtain ⟨f', fd', ps', ds, dvs, sp, G, g, kp, bd, vl, r⟩ := def_of (n := 0) (T := []) (k := 0) (P := P) (w := w) (base := base) F hg hb sc hm tl_nil rfl
  exact ⟨f', fd', ps', ds, dvs, sp, G, g, kp, bd, vl, fun vs H Q _ h => by
    obtain ⟨_, _, _, _, _, _, _, z, _⟩ := h
    cases z⟩
/-! ### constants -/
theorem modOk_nil {B : List Str} (h : ∀ x ∈ B, mg x = none) : ModOk K mg [] B := ⟨fun _ _ h => (nomatch h), h⟩
theorem ModOk.cons {C : List (Str × D)} {B : List Str} {x : Str} {d : D} (m : ModOk K mg C B) (h : ∃ u v, mg x = some u ∧ RelV v u ∧ ∀ H μ, RV K H μ d v) : ModOk K mg ((x, d) :: C) B :=
  ⟨fun y e q => by
    by_cases z : y = x
    · cases z
      rw [List.lookup_cons_self] at q
      cases q
      exact h
    · rw [List.lookup_cons, beq_eq_false_iff_ne.mpr z] at q
      exact m.C y e q, m.B⟩
/-- plain values of a table -/
def dvD : D → Option He.Dv
  | .non => some .non
  | .bl b => some (.bl b)
  | .int i => some (.int i)
  | .str x => some (.str x)
  | _ => none
def dvDs : List D → Option (List He.Dv)
  | [] => some []
  | d :: ds => match dvD d, dvDs ds with
    | some v, some vs => some (v :: vs)
    | _, _ => none
theorem dvD_ok {d : D} {v : He.Dv} (h : dvD d = some v) (H : Hp) (μ : List Addr) : RV K H μ d (v.v K) := by
  cases d <;> first | (cases h; constructor) | cases h
theorem dvDs_ok : ∀ {ds : List D} {vs : List He.Dv}, dvDs ds = some vs → ∀ (H : Hp) (μ : List Addr), RVs K H μ ds (vs.map (He.Dv.v K))
  | [], vs, h, H, μ => by cases h; exact .nil
  | d :: ds, vs, h, H, μ => by
    unfold dvDs at h
    split at h
    · rename_i v vs' h1 h2
      cases h
      exact .cons (dvD_ok h1 H μ) (dvDs_ok h2 H μ)
    · cases h
theorem kts_of {a : Addr} {vs : List V} (h : ∀ H, SqT K H a vs) : KTs K a vs := by
  rcases h (fun _ => none) with r | r
  · rcases r with r | ⟨o, r⟩ <;> cases r
  · exact r
theorem con_int {x : Str} {i : Int} (h : ∃ t, mg x = some (.int i t)) : ∃ u v, mg x = some u ∧ RelV v u ∧ ∀ H μ, RV K H μ (.int i) v := by
  obtain ⟨t, e⟩ := h
  exact ⟨_, .int i, e, ⟨t, rfl⟩, fun _ _ => .int i⟩
theorem con_str {x z : Str} (h : ∃ t, mg x = some (.str z t)) : ∃ u v, mg x = some u ∧ RelV v u ∧ ∀ H μ, RV K H μ (.str z) v := by
  obtain ⟨t, e⟩ := h
  exact ⟨_, .str z, e, ⟨t, rfl⟩, fun _ _ => .str z⟩
theorem con_tup {x : Str} {ds : List D} {vs : List He.Dv} (hg : mg x = some (.ref (He.ga K x))) (ht : He.tupB K x vs = true) (e : dvDs ds = some vs) : ∃ u v, mg x = some u ∧ RelV v u ∧ ∀ H μ, RV K H μ (.tup ds) v :=
  ⟨_, .ref (He.ga K x), hg, rfl, fun H μ => .tup (.inr (kts_of fun H => He.tupB_ok ht H)) (dvDs_ok e H μ)⟩
/-! ### the law's promise -/
theorem frz_rel {H : Hp} {a : Addr} {ns : List Int} (ho : Only H) (h : SqL K H a (ns.map V.int)) : Rel K [a] [.frz ns] H := by
  refine ⟨rfl, fun n m b o o' e1 e2 e3 e4 f1 f2 => ?_, fun n b o e1 e2 => ?_⟩
  · match n, e3 with
    | 0, e3 => cases e3; cases f1
    | n + 1, e3 => cases e3
  · match n, e1, e2 with
    | 0, e1, e2 =>
      cases e1; cases e2
      rcases h with r | r
      · rcases r with r | ⟨o, r⟩
        · rcases ho a with z | ⟨o, xs, z⟩
          · rw [z] at r; cases r
          · rw [z] at r; cases r
        · exact .inl ⟨o, r⟩
      · exact .inr r
    | n + 1, e1, e2 => cases e2
theorem law_sp {F : ON} (hF : ∀ ns : List Int, ∃ h', F [.loc 0] [.frz ns] = some (.bl true, h')) (H : Hp) (a : Addr) (ns : List Int) (ho : Only H) (hS : SqL K H a (ns.map V.int)) {E : XK} : spF K 1 F [.ref a] H (fun v _ => v = .bl true) E := by
  obtain ⟨h', e⟩ := hF ns
  refine ⟨rfl, [a], _, [.loc 0], _, _, frz_rel ho hS, .cons (.loc rfl) .nil, e, fun μ' H' v _ _ r => ?_⟩
  cases r
  rfl
end
end MP

/-! text Mini15 -/
set_option Elab.async false
set_option linter.all false
set_option maxRecDepth 100000
set_option maxHeartbeats 4000000
/-! What a reading gives, by what is asked of it: weakest preconditions over the shallow terms. -/
namespace MP
open PySem PySem.Spec PyProof.Rows
open L2 hiding St

abbrev QE := D → Hs → Prop
def wO (o : Option (D × Hs)) (Q : QE) : Prop := ∃ d h, o = some (d, h) ∧ Q d h
def wE (m : EM) (ρ : Rho) (h : Hs) (Q : QE) : Prop := wO (m ρ h) Q
def wB (m : BM) (ρ : Rho) (h : Hs) (Q : Bool → Hs → Prop) : Prop := ∃ b h', m ρ h = some (b, h') ∧ Q b h'
def wA (m : AM) (ρ : Rho) (h : Hs) (Q : List D → Hs → Prop) : Prop := ∃ ds h', m ρ h = some (ds, h') ∧ Q ds h'
def wP (m : PM) (ρ : Rho) (h : Hs) (Q : Option Int → Hs → Prop) : Prop := ∃ o h', m ρ h = some (o, h') ∧ Q o h'
def wI (m : IM) (ρ : Rho) (h : Hs) (Q : List D → Gd → Hs → Prop) : Prop := ∃ xs gd h', m ρ h = some ((xs, gd), h') ∧ Q xs gd h'
def wG (m : GM) (x : D) (ρ : Rho) (h : Hs) (Q : Rho → Hs → Prop) : Prop := ∃ ρ' h', m x ρ h = some (ρ', h') ∧ Q ρ' h'
def wGs (m : GsM) (xs : List D) (ρ : Rho) (h : Hs) (Q : Rho → Hs → Prop) : Prop := ∃ ρ' h', m xs ρ h = some (ρ', h') ∧ Q ρ' h'
abbrev QS := Fl → Rho → Hs → Prop
def wS (m : SM) (ρ : Rho) (h : Hs) (Q : QS) : Prop := ∃ f ρ' h', m ρ h = some (f, ρ', h') ∧ Q f ρ' h'
def wF (F : ON) (ds : List D) (h : Hs) (Q : QE) : Prop := wO (F ds h) Q

/-! ### monotone -/
theorem wO.imp {o : Option (D × Hs)} {Q Q' : QE} (w : wO o Q) (i : ∀ d h, Q d h → Q' d h) : wO o Q' := let ⟨d, h, e, q⟩ := w; ⟨d, h, e, i d h q⟩
theorem wF.imp {F : ON} {ds : List D} {h : Hs} {Q Q' : QE} (w : wF F ds h Q) (i : ∀ d h, Q d h → Q' d h) : wF F ds h Q' := wO.imp w i
theorem wE.imp {m : EM} {ρ : Rho} {h : Hs} {Q Q' : QE} (w : wE m ρ h Q) (i : ∀ d h, Q d h → Q' d h) : wE m ρ h Q' := wO.imp w i
theorem wB.imp {m : BM} {ρ : Rho} {h : Hs} {Q Q' : Bool → Hs → Prop} (w : wB m ρ h Q) (i : ∀ d h, Q d h → Q' d h) : wB m ρ h Q' := let ⟨d, h, e, q⟩ := w; ⟨d, h, e, i d h q⟩
theorem wG.imp {m : GM} {x : D} {ρ : Rho} {h : Hs} {Q Q' : Rho → Hs → Prop} (w : wG m x ρ h Q) (i : ∀ d h, Q d h → Q' d h) : wG m x ρ h Q' := let ⟨d, h, e, q⟩ := w; ⟨d, h, e, i d h q⟩
theorem wS.imp {m : SM} {ρ : Rho} {h : Hs} {Q Q' : QS} (w : wS m ρ h Q) (i : ∀ f ρ h, Q f ρ h → Q' f ρ h) : wS m ρ h Q' := let ⟨f, ρ', h', e, q⟩ := w; ⟨f, ρ', h', e, i f ρ' h' q⟩

@[simp ↓] theorem wO_some (d : D) (h : Hs) (Q : QE) : wO (some (d, h)) Q = Q d h := propext ⟨fun ⟨_, _, e, q⟩ => (by cases e; exact q), fun q => ⟨d, h, rfl, q⟩⟩
@[simp ↓] theorem wO_none (Q : QE) : wO none Q = False := propext ⟨fun w => (by obtain ⟨_, _, e, _⟩ := w; cases e), fun q => False.elim q⟩
@[simp ↓] theorem wO_map {α : Type} (o : Option α) (f : α → D × Hs) (Q : QE) : wO (o.map f) Q = ∃ a, o = some a ∧ Q (f a).1 (f a).2 := propext ⟨fun ⟨d, h, e, q⟩ => (by
  cases o with
  | none => cases e
  | some a => refine ⟨a, rfl, ?_⟩; simp only [Option.map_some, Option.some.injEq] at e; rw [e]; exact q), fun ⟨a, e, q⟩ => by subst e; exact ⟨_, _, rfl, q⟩⟩

/-! ### expressions -/
@[simp ↓] theorem wE_C (d : D) (ρ : Rho) (h : Hs) (Q : QE) : wE (mC d) ρ h Q = Q d h := wO_some d h Q
def slotP (o : Option (Option D)) (Q : D → Prop) : Prop := ∃ d, o = some (some d) ∧ Q d
@[simp ↓] theorem slotP_some (d : D) (Q : D → Prop) : slotP (some (some d)) Q = Q d := propext ⟨fun ⟨_, e, q⟩ => (by cases e; exact q), fun q => ⟨d, rfl, q⟩⟩
@[simp ↓] theorem wE_Var (i : Nat) (ρ : Rho) (h : Hs) (Q : QE) : wE (mVar i) ρ h Q = slotP ρ[i]? (fun d => Q d h) := propext ⟨fun ⟨d, h', e, q⟩ => (by
  unfold mVar at e
  split at e
  · rename_i d0 e0; cases e; exact ⟨d, e0, q⟩
  · cases e), fun ⟨d, e, q⟩ => ⟨d, h, by unfold mVar; rw [e], q⟩⟩
@[simp ↓] theorem wE_Op2 (g : O2) (a b : EM) (ρ : Rho) (h : Hs) (Q : QE) : wE (mOp2 g a b) ρ h Q = wE a ρ h (fun x h1 => wE b ρ h1 (fun y h2 => wO (g x y h2) Q)) := propext ⟨fun ⟨d, h', e, q⟩ => (by
  obtain ⟨⟨x, h1⟩, e1, e⟩ := bind_some e
  obtain ⟨⟨y, h2⟩, e2, e⟩ := bind_some e
  exact ⟨x, h1, e1, y, h2, e2, d, h', e, q⟩), fun ⟨x, h1, e1, y, h2, e2, d, h', e, q⟩ => ⟨d, h', by unfold mOp2; rw [e1]; show ((b ρ h1).bind _) = _; rw [e2]; exact e, q⟩⟩
@[simp ↓] theorem wE_Op1 (g : O1) (a : EM) (ρ : Rho) (h : Hs) (Q : QE) : wE (mOp1 g a) ρ h Q = wE a ρ h (fun x h1 => wO (g x h1) Q) := propext ⟨fun ⟨d, h', e, q⟩ => (by
  obtain ⟨⟨x, h1⟩, e1, e⟩ := bind_some e
  exact ⟨x, h1, e1, d, h', e, q⟩), fun ⟨x, h1, e1, d, h', e, q⟩ => ⟨d, h', by unfold mOp1; rw [e1]; exact e, q⟩⟩
@[simp ↓] theorem wA_Nil (ρ : Rho) (h : Hs) (Q : List D → Hs → Prop) : wA aNil ρ h Q = Q [] h := propext ⟨fun ⟨_, _, e, q⟩ => (by cases e; exact q), fun q => ⟨[], h, rfl, q⟩⟩
@[simp ↓] theorem wA_Cons (me : EM) (ma : AM) (ρ : Rho) (h : Hs) (Q : List D → Hs → Prop) : wA (aCons me ma) ρ h Q = wE me ρ h (fun x h1 => wA ma ρ h1 (fun xs h2 => Q (x :: xs) h2)) := propext ⟨fun ⟨d, h', e, q⟩ => (by
  obtain ⟨⟨x, h1⟩, e1, e⟩ := bind_some e
  obtain ⟨⟨y, h2⟩, e2, e⟩ := bind_some e
  cases e
  exact ⟨x, h1, e1, y, _, e2, q⟩), fun ⟨x, h1, e1, y, h2, e2, q⟩ => ⟨_, _, by unfold aCons; rw [e1]; show ((ma ρ h1).bind _) = _; rw [e2]; rfl, q⟩⟩
@[simp ↓] theorem wE_CallN (g : ON) (ma : AM) (ρ : Rho) (h : Hs) (Q : QE) : wE (mCallN g ma) ρ h Q = wA ma ρ h (fun ds h1 => wO (g ds h1) Q) := propext ⟨fun ⟨d, h', e, q⟩ => (by
  obtain ⟨⟨x, h1⟩, e1, e⟩ := bind_some e
  exact ⟨x, h1, e1, d, h', e, q⟩), fun ⟨x, h1, e1, d, h', e, q⟩ => ⟨d, h', by unfold mCallN; rw [e1]; exact e, q⟩⟩
@[simp ↓] theorem wE_CallF (n : Nat) (g : ON) (ma : AM) (ρ : Rho) (h : Hs) (Q : QE) : wE (mCallF n g ma) ρ h Q = wA ma ρ h (fun ds h1 => ds.length = n ∧ wF g ds h1 Q) := propext ⟨fun ⟨d, h', e, q⟩ => (by
  obtain ⟨⟨x, h1⟩, e1, e⟩ := bind_some e
  by_cases hn : x.length = n
  · rw [if_pos hn] at e; exact ⟨x, h1, e1, hn, d, h', e, q⟩
  · rw [if_neg hn] at e; cases e), fun ⟨x, h1, e1, hn, d, h', e, q⟩ => ⟨d, h', by unfold mCallF; rw [e1]; show (if _ then _ else _) = _; rw [if_pos hn]; exact e, q⟩⟩
@[simp ↓] theorem wE_Meth (ty : Hs → D → Bool) (g : OM) (mo : EM) (ma : AM) (ρ : Rho) (h : Hs) (Q : QE) : wE (mMeth ty g mo ma) ρ h Q = wE mo ρ h (fun o h1 => ty h1 o = true ∧ wA ma ρ h1 (fun ds h2 => wO (g o ds h2) Q)) := propext ⟨fun ⟨d, h', e, q⟩ => (by
  obtain ⟨⟨x, h1⟩, e1, e⟩ := bind_some e
  by_cases hn : ty h1 x = true
  · rw [if_pos hn] at e
    obtain ⟨⟨y, h2⟩, e2, e⟩ := bind_some e
    exact ⟨x, h1, e1, hn, y, h2, e2, d, h', e, q⟩
  · rw [if_neg hn] at e; cases e), fun ⟨x, h1, e1, hn, y, h2, e2, d, h', e, q⟩ => ⟨d, h', by unfold mMeth; rw [e1]; show (if _ then _ else _) = _; rw [if_pos hn]; show ((ma ρ h1).bind _) = _; rw [e2]; exact e, q⟩⟩
@[simp ↓] theorem wE_Tup (ma : AM) (ρ : Rho) (h : Hs) (Q : QE) : wE (mTup ma) ρ h Q = wA ma ρ h (fun ds h1 => ds.length ≤ sizeLine ∧ Q (.tup ds) h1) := propext ⟨fun ⟨d, h', e, q⟩ => (by
  obtain ⟨⟨x, h1⟩, e1, e⟩ := bind_some e
  by_cases hn : x.length ≤ sizeLine
  · rw [if_pos hn] at e; cases e; exact ⟨x, h1, e1, hn, q⟩
  · rw [if_neg hn] at e; cases e), fun ⟨x, h1, e1, hn, q⟩ => ⟨_, _, by unfold mTup; rw [e1]; show (if _ then _ else _) = _; rw [if_pos hn], q⟩⟩
@[simp ↓] theorem wE_Lst (ma : AM) (ρ : Rho) (h : Hs) (Q : QE) : wE (mLst ma) ρ h Q = wA ma ρ h (fun ds h1 => ds.length ≤ sizeLine ∧ Q (.loc h1.length) (h1 ++ [.lst ds])) := propext ⟨fun ⟨d, h', e, q⟩ => (by
  obtain ⟨⟨x, h1⟩, e1, e⟩ := bind_some e
  by_cases hn : x.length ≤ sizeLine
  · rw [if_pos hn] at e; cases e; exact ⟨x, h1, e1, hn, q⟩
  · rw [if_neg hn] at e; cases e), fun ⟨x, h1, e1, hn, q⟩ => ⟨_, _, by unfold mLst; rw [e1]; show (if _ then _ else _) = _; rw [if_pos hn], q⟩⟩
@[simp ↓] theorem wE_If (mt : BM) (ma mb : EM) (ρ : Rho) (h : Hs) (Q : QE) : wE (mIf mt ma mb) ρ h Q = wB mt ρ h (fun b h1 => if b = true then wE ma ρ h1 Q else wE mb ρ h1 Q) := propext ⟨fun ⟨d, h', e, q⟩ => (by
  obtain ⟨⟨x, h1⟩, e1, e⟩ := bind_some e
  refine ⟨x, h1, e1, ?_⟩
  cases x
  · exact ⟨d, h', e, q⟩
  · exact ⟨d, h', e, q⟩), fun ⟨x, h1, e1, w⟩ => by
  cases x
  · obtain ⟨d, h', e, q⟩ := w; exact ⟨d, h', by unfold mIf; rw [e1]; exact e, q⟩
  · obtain ⟨d, h', e, q⟩ := w; exact ⟨d, h', by unfold mIf; rw [e1]; exact e, q⟩⟩
def wT (o : Option Bool) (Q : Bool → Prop) : Prop := ∃ b, o = some b ∧ Q b
@[simp ↓] theorem wT_some (b : Bool) (Q : Bool → Prop) : wT (some b) Q = Q b := propext ⟨fun ⟨_, e, q⟩ => (by cases e; exact q), fun q => ⟨b, rfl, q⟩⟩
@[simp ↓] theorem wE_AndV (ma mb : EM) (ρ : Rho) (h : Hs) (Q : QE) : wE (mAndV ma mb) ρ h Q = wE ma ρ h (fun x h1 => wT (truD h1 x) (fun b => if b = true then wE mb ρ h1 Q else Q x h1)) := propext ⟨fun ⟨d, h', e, q⟩ => (by
  obtain ⟨⟨x, h1⟩, e1, e⟩ := bind_some e
  refine ⟨x, h1, e1, ?_⟩
  dsimp only at e
  cases z : truD h1 x with
  | none => rw [z] at e; cases e
  | some b => rw [z] at e; cases b
              · cases e; exact ⟨false, z, q⟩
              · exact ⟨true, z, d, h', e, q⟩), fun ⟨x, h1, e1, b, z, w⟩ => by
  cases b
  · exact ⟨x, h1, by unfold mAndV; rw [e1]; dsimp only [Option.bind_some]; rw [z], w⟩
  · obtain ⟨d, h', e, q⟩ := w
    exact ⟨d, h', by unfold mAndV; rw [e1]; dsimp only [Option.bind_some]; rw [z]; exact e, q⟩⟩
@[simp ↓] theorem wE_OrV (ma mb : EM) (ρ : Rho) (h : Hs) (Q : QE) : wE (mOrV ma mb) ρ h Q = wE ma ρ h (fun x h1 => wT (truD h1 x) (fun b => if b = true then Q x h1 else wE mb ρ h1 Q)) := propext ⟨fun ⟨d, h', e, q⟩ => (by
  obtain ⟨⟨x, h1⟩, e1, e⟩ := bind_some e
  refine ⟨x, h1, e1, ?_⟩
  dsimp only at e
  cases z : truD h1 x with
  | none => rw [z] at e; cases e
  | some b => rw [z] at e; cases b
              · exact ⟨false, z, d, h', e, q⟩
              · cases e; exact ⟨true, z, q⟩), fun ⟨x, h1, e1, b, z, w⟩ => by
  cases b
  · obtain ⟨d, h', e, q⟩ := w
    exact ⟨d, h', by unfold mOrV; rw [e1]; dsimp only [Option.bind_some]; rw [z]; exact e, q⟩
  · exact ⟨x, h1, by unfold mOrV; rw [e1]; dsimp only [Option.bind_some]; rw [z], w⟩⟩
@[simp ↓] theorem wE_NotV (ma : EM) (ρ : Rho) (h : Hs) (Q : QE) : wE (mNotV ma) ρ h Q = wE ma ρ h (fun x h1 => wT (truD h1 x) (fun b => Q (.bl (!b)) h1)) := propext ⟨fun ⟨d, h', e, q⟩ => (by
  obtain ⟨⟨x, h1⟩, e1, e⟩ := bind_some e
  refine ⟨x, h1, e1, ?_⟩
  dsimp only at e
  cases z : truD h1 x with
  | none => rw [z] at e; cases e
  | some b => rw [z] at e; cases e; exact ⟨_, z, q⟩), fun ⟨x, h1, e1, b, z, w⟩ => by
  exact ⟨_, _, by unfold mNotV; rw [e1]; dsimp only [Option.bind_some]; rw [z], w⟩⟩
/-- a result that is a bool -/
def wOb (o : Option (D × Hs)) (Q : Bool → Hs → Prop) : Prop := wO o (fun d h => ∃ b, d = .bl b ∧ Q b h)
@[simp ↓] theorem wOb_some (b : Bool) (h : Hs) (Q : Bool → Hs → Prop) : wOb (some (.bl b, h)) Q = Q b h := by
  unfold wOb; rw [wO_some]; exact propext ⟨fun ⟨_, e, q⟩ => (by cases e; exact q), fun q => ⟨b, rfl, q⟩⟩
def blP (d : D) (Q : Bool → Prop) : Prop := ∃ b, d = .bl b ∧ Q b
@[simp ↓] theorem blP_bl (b : Bool) (Q : Bool → Prop) : blP (.bl b) Q = Q b := propext ⟨fun ⟨_, e, q⟩ => (by cases e; exact q), fun q => ⟨b, rfl, q⟩⟩
@[simp ↓] theorem wE_Chain (g g' : O2) (ma mb mc : EM) (ρ : Rho) (h : Hs) (Q : QE) : wE (mChain g g' ma mb mc) ρ h Q = wE ma ρ h (fun x h1 => wE mb ρ h1 (fun y h2 => wO (g x y h2) (fun d h3 => blP d (fun b => if b = true then wE mc ρ h3 (fun z h4 => wO (g' y z h4) Q) else Q (.bl false) h3)))) := propext ⟨fun ⟨d, h', e, q⟩ => (by
  obtain ⟨⟨x, h1⟩, e1, e⟩ := bind_some e
  obtain ⟨⟨y, h2⟩, e2, e⟩ := bind_some e
  obtain ⟨⟨z, h3⟩, e3, e⟩ := bind_some e
  refine ⟨x, h1, e1, y, h2, e2, z, h3, e3, ?_⟩
  cases z with
  | bl b => cases b
            · dsimp only at e; cases e; exact ⟨_, rfl, q⟩
            · dsimp only at e
              obtain ⟨⟨u, h4⟩, e4, e⟩ := bind_some e
              exact ⟨_, rfl, u, h4, e4, d, h', e, q⟩
  | _ => cases e), fun ⟨x, h1, e1, y, h2, e2, z, h3, e3, b, ez, w⟩ => by
  subst ez
  cases b
  · exact ⟨_, _, by unfold mChain; rw [e1]; show ((mb ρ h1).bind _) = _; rw [e2]; show ((g x y h2).bind _) = _; rw [e3]; rfl, w⟩
  · obtain ⟨u, h4, e4, d, h', e, q⟩ := w
    exact ⟨d, h', by unfold mChain; rw [e1]; show ((mb ρ h1).bind _) = _; rw [e2]; show ((g x y h2).bind _) = _; rw [e3]; show ((mc ρ h3).bind _) = _; rw [e4]; exact e, q⟩⟩
def inP (d : D) (Q : Int → Prop) : Prop := ∃ b, d = .int b ∧ Q b
@[simp ↓] theorem inP_int (b : Int) (Q : Int → Prop) : inP (.int b) Q = Q b := propext ⟨fun ⟨_, e, q⟩ => (by cases e; exact q), fun q => ⟨b, rfl, q⟩⟩
@[simp ↓] theorem wP_No (ρ : Rho) (h : Hs) (Q : Option Int → Hs → Prop) : wP pNo ρ h Q = Q none h := propext ⟨fun ⟨_, _, e, q⟩ => (by cases e; exact q), fun q => ⟨_, h, rfl, q⟩⟩
@[simp ↓] theorem wP_Int (me : EM) (ρ : Rho) (h : Hs) (Q : Option Int → Hs → Prop) : wP (pInt me) ρ h Q = wE me ρ h (fun d h1 => inP d (fun i => Q (some i) h1)) := propext ⟨fun ⟨d, h', e, q⟩ => (by
  obtain ⟨⟨x, h1⟩, e1, e⟩ := bind_some e
  cases x with
  | int i => cases e; exact ⟨_, _, e1, _, rfl, q⟩
  | _ => cases e), fun ⟨x, h1, e1, i, ei, q⟩ => by
  subst ei
  exact ⟨_, _, by unfold pInt; rw [e1]; rfl, q⟩⟩
@[simp ↓] theorem wE_Sl (ma : EM) (ml mu : PM) (ρ : Rho) (h : Hs) (Q : QE) : wE (mSl ma ml mu) ρ h Q = wE ma ρ h (fun x h1 => wP ml ρ h1 (fun lo h2 => wP mu ρ h2 (fun hi h3 => wO (slO x lo hi h3) Q))) := propext ⟨fun ⟨d, h', e, q⟩ => (by
  obtain ⟨⟨x, h1⟩, e1, e⟩ := bind_some e
  obtain ⟨⟨y, h2⟩, e2, e⟩ := bind_some e
  obtain ⟨⟨z, h3⟩, e3, e⟩ := bind_some e
  exact ⟨x, h1, e1, y, h2, e2, z, h3, e3, d, h', e, q⟩), fun ⟨x, h1, e1, y, h2, e2, z, h3, e3, d, h', e, q⟩ => ⟨d, h', by unfold mSl; rw [e1]; show ((ml ρ h1).bind _) = _; rw [e2]; show ((mu ρ h2).bind _) = _; rw [e3]; exact e, q⟩⟩
/-! ### tests -/
@[simp ↓] theorem wB_Tru (ma : EM) (ρ : Rho) (h : Hs) (Q : Bool → Hs → Prop) : wB (bTru ma) ρ h Q = wE ma ρ h (fun x h1 => wT (truD h1 x) (fun b => Q b h1)) := propext ⟨fun ⟨d, h', e, q⟩ => (by
  obtain ⟨⟨x, h1⟩, e1, e⟩ := bind_some e
  cases z : truD h1 x with
  | none => dsimp only at e; rw [z] at e; cases e
  | some b => dsimp only at e; rw [z] at e; cases e; exact ⟨x, _, e1, _, z, q⟩), fun ⟨x, h1, e1, b, z, q⟩ => ⟨_, _, by unfold bTru; rw [e1]; show (Option.map _ (truD h1 x)) = _; rw [z]; rfl, q⟩⟩
@[simp ↓] theorem wB_Bool (ma : EM) (ρ : Rho) (h : Hs) (Q : Bool → Hs → Prop) : wB (bBool ma) ρ h Q = wE ma ρ h (fun x h1 => blP x (fun b => Q b h1)) := propext ⟨fun ⟨d, h', e, q⟩ => (by
  obtain ⟨⟨x, h1⟩, e1, e⟩ := bind_some e
  cases x with
  | bl b => cases e; exact ⟨_, _, e1, _, rfl, q⟩
  | _ => cases e), fun ⟨x, h1, e1, i, ei, q⟩ => by
  subst ei
  exact ⟨_, _, by unfold bBool; rw [e1]; rfl, q⟩⟩
@[simp ↓] theorem wB_Not (ma : BM) (ρ : Rho) (h : Hs) (Q : Bool → Hs → Prop) : wB (bNot ma) ρ h Q = wB ma ρ h (fun b h1 => Q (!b) h1) := propext ⟨fun ⟨d, h', e, q⟩ => (by
  unfold bNot at e
  cases z : ma ρ h with
  | none => rw [z] at e; cases e
  | some r => rw [z] at e; cases e; exact ⟨_, _, z, q⟩), fun ⟨b, h1, e1, q⟩ => ⟨_, _, by unfold bNot; rw [e1]; rfl, q⟩⟩
@[simp ↓] theorem wB_And (ma mb : BM) (ρ : Rho) (h : Hs) (Q : Bool → Hs → Prop) : wB (bAnd ma mb) ρ h Q = wB ma ρ h (fun b h1 => if b = true then wB mb ρ h1 Q else Q false h1) := propext ⟨fun ⟨d, h', e, q⟩ => (by
  obtain ⟨⟨x, h1⟩, e1, e⟩ := bind_some e
  cases x
  · cases e; exact ⟨_, _, e1, q⟩
  · exact ⟨_, _, e1, d, h', e, q⟩), fun ⟨x, h1, e1, w⟩ => by
  cases x
  · exact ⟨_, _, by unfold bAnd; rw [e1]; rfl, w⟩
  · obtain ⟨d, h', e, q⟩ := w; exact ⟨d, h', by unfold bAnd; rw [e1]; exact e, q⟩⟩
@[simp ↓] theorem wB_Or (ma mb : BM) (ρ : Rho) (h : Hs) (Q : Bool → Hs → Prop) : wB (bOr ma mb) ρ h Q = wB ma ρ h (fun b h1 => if b = true then Q true h1 else wB mb ρ h1 Q) := propext ⟨fun ⟨d, h', e, q⟩ => (by
  obtain ⟨⟨x, h1⟩, e1, e⟩ := bind_some e
  cases x
  · exact ⟨_, _, e1, d, h', e, q⟩
  · cases e; exact ⟨_, _, e1, q⟩), fun ⟨x, h1, e1, w⟩ => by
  cases x
  · obtain ⟨d, h', e, q⟩ := w; exact ⟨d, h', by unfold bOr; rw [e1]; exact e, q⟩
  · exact ⟨_, _, by unfold bOr; rw [e1]; rfl, w⟩⟩
@[simp ↓] theorem wB_Yes (ρ : Rho) (h : Hs) (Q : Bool → Hs → Prop) : wB bYes ρ h Q = Q true h := propext ⟨fun ⟨_, _, e, q⟩ => (by cases e; exact q), fun q => ⟨_, h, rfl, q⟩⟩
/-! ### targets -/
@[simp ↓] theorem wG_Var (i : Nat) (x : D) (ρ : Rho) (h : Hs) (Q : Rho → Hs → Prop) : wG (gVar i) x ρ h Q = Q (ρ.set i (some x)) h := propext ⟨fun ⟨_, _, e, q⟩ => (by cases e; exact q), fun q => ⟨_, h, rfl, q⟩⟩
@[simp ↓] theorem wGs_Nil (ρ : Rho) (h : Hs) (Q : Rho → Hs → Prop) : wGs gsNil [] ρ h Q = Q ρ h := propext ⟨fun ⟨_, _, e, q⟩ => (by cases e; exact q), fun q => ⟨_, h, rfl, q⟩⟩
@[simp ↓] theorem wGs_Cons (g : GM) (gs : GsM) (x : D) (xs : List D) (ρ : Rho) (h : Hs) (Q : Rho → Hs → Prop) : wGs (gsCons g gs) (x :: xs) ρ h Q = wG g x ρ h (fun ρ1 h1 => wGs gs xs ρ1 h1 Q) := propext ⟨fun ⟨d, h', e, q⟩ => (by
  obtain ⟨⟨y, h1⟩, e1, e⟩ := bind_some e
  exact ⟨y, h1, e1, d, h', e, q⟩), fun ⟨x', h1, e1, d, h', e, q⟩ => ⟨d, h', by show ((g x ρ h).bind _) = _; rw [e1]; exact e, q⟩⟩
def sqP (o : Option (List D)) (Q : List D → Prop) : Prop := ∃ xs, o = some xs ∧ Q xs
@[simp ↓] theorem sqP_some (xs : List D) (Q : List D → Prop) : sqP (some xs) Q = Q xs := propext ⟨fun ⟨_, e, q⟩ => (by cases e; exact q), fun q => ⟨xs, rfl, q⟩⟩
@[simp ↓] theorem wG_Tup (n : Nat) (gs : GsM) (x : D) (ρ : Rho) (h : Hs) (Q : Rho → Hs → Prop) : wG (gTupM n gs) x ρ h Q = sqP (seqAt h x) (fun xs => xs.length = n ∧ wGs gs xs ρ h Q) := propext ⟨fun ⟨d, h', e, q⟩ => (by
  unfold gTupM at e
  split at e
  · rename_i xs e1
    split at e
    · rename_i hn
      exact ⟨xs, e1, hn, d, h', e, q⟩
    · cases e
  · cases e), fun ⟨xs, e1, hn, d, h', e, q⟩ => ⟨d, h', by unfold gTupM; rw [e1]; show (if _ then _ else _) = _; rw [if_pos hn]; exact e, q⟩⟩
def stP (o : Option Hs) (Q : Hs → Prop) : Prop := ∃ h, o = some h ∧ Q h
@[simp ↓] theorem stP_some (h : Hs) (Q : Hs → Prop) : stP (some h) Q = Q h := propext ⟨fun ⟨_, e, q⟩ => (by cases e; exact q), fun q => ⟨h, rfl, q⟩⟩
@[simp ↓] theorem wG_Sub (mo mi : EM) (x : D) (ρ : Rho) (h : Hs) (Q : Rho → Hs → Prop) : wG (gSubM mo mi) x ρ h Q = wE mo ρ h (fun o h1 => wE mi ρ h1 (fun i h2 => stP (setD o i x h2) (fun h3 => Q ρ h3))) := propext ⟨fun ⟨d, h', e, q⟩ => (by
  unfold gSubM at e
  obtain ⟨⟨o, h1⟩, e1, e⟩ := bind_some e
  obtain ⟨⟨y, h2⟩, e2, e⟩ := bind_some e
  cases z : setD o y x h2 with
  | none => dsimp only at e; rw [z] at e; cases e
  | some h3 => dsimp only at e; rw [z] at e; cases e; exact ⟨_, _, e1, _, _, e2, _, z, q⟩), fun ⟨o, h1, e1, y, h2, e2, h3, z, q⟩ => ⟨_, _, by unfold gSubM; rw [e1]; show ((mi ρ h1).bind _) = _; rw [e2]; show (Option.map _ (setD o y x h2)) = _; rw [z]; rfl, q⟩⟩
/-! ### what is walked -/
def sqI (h : Hs) (d : D) (Q : List D → Gd → Prop) : Prop := match d with
  | .tup xs => Q xs none
  | .loc n => ∃ xs, itemsAt h n = some xs ∧ Q xs (some (n, xs))
  | .str x => Q (x.cps.toList.map fun c => .str ⟨#[c]⟩) none
  | _ => False
@[simp ↓] theorem wI_Seq (me : EM) (ρ : Rho) (h : Hs) (Q : List D → Gd → Hs → Prop) : wI (iSeq me) ρ h Q = wE me ρ h (fun d h1 => sqI h1 d (fun xs gd => Q xs gd h1)) := propext ⟨fun ⟨d, gd, h', e, q⟩ => (by
  unfold iSeq at e
  obtain ⟨⟨o, h1⟩, e1, e⟩ := bind_some e
  refine ⟨o, h1, e1, ?_⟩
  cases o with
  | tup xs => cases e; exact q
  | str xs => cases e; exact q
  | loc n => dsimp only at e
             cases z : itemsAt h1 n with
             | none => rw [z] at e; cases e
             | some xs => rw [z] at e; cases e; exact ⟨_, z, q⟩
  | _ => cases e), fun ⟨o, h1, e1, w⟩ => by
  cases o with
  | tup xs => exact ⟨_, _, _, by show ((me ρ h).bind _) = _; rw [e1]; rfl, w⟩
  | str xs => exact ⟨_, _, _, by show ((me ρ h).bind _) = _; rw [e1]; rfl, w⟩
  | loc n => obtain ⟨xs, z, w⟩ := w
             exact ⟨_, _, _, by show ((me ρ h).bind _) = _; rw [e1]; show (Option.map _ (itemsAt h1 n)) = _; rw [z]; rfl, w⟩
  | _ => exact w.elim⟩
@[simp ↓] theorem wI_Range1 (me : EM) (ρ : Rho) (h : Hs) (Q : List D → Gd → Hs → Prop) : wI (iRange1 me) ρ h Q = wE me ρ h (fun d h1 => inP d (fun j => (-(2 ^ 62) ≤ j ∧ j < 2 ^ 62) ∧ Q (rangeD 0 1 j.toNat) none h1)) := propext ⟨fun ⟨d, gd, h', e, q⟩ => (by
  unfold iRange1 at e
  obtain ⟨⟨o, h1⟩, e1, e⟩ := bind_some e
  cases o with
  | int j => dsimp only at e
             split at e
             · rename_i hz; cases e; exact ⟨_, _, e1, _, rfl, hz, q⟩
             · cases e
  | _ => cases e), fun ⟨o, h1, e1, j, ej, hz, q⟩ => by
  subst ej
  exact ⟨_, _, _, by unfold iRange1; rw [e1]; show (if _ then _ else _) = _; rw [if_pos hz], q⟩⟩
@[simp ↓] theorem wI_Range2 (ma mb : EM) (ρ : Rho) (h : Hs) (Q : List D → Gd → Hs → Prop) : wI (iRange2 ma mb) ρ h Q = wE ma ρ h (fun d h1 => wE mb ρ h1 (fun d2 h2 => inP d (fun i => inP d2 (fun j => (-(2 ^ 62) ≤ i ∧ i < 2 ^ 62 ∧ -(2 ^ 62) ≤ j ∧ j < 2 ^ 62) ∧ Q (rangeD i 1 (j - i).toNat) none h2)))) := propext ⟨fun ⟨d, gd, h', e, q⟩ => (by
  unfold iRange2 at e
  obtain ⟨⟨o, h1⟩, e1, e⟩ := bind_some e
  obtain ⟨⟨o2, h2⟩, e2, e⟩ := bind_some e
  refine ⟨_, _, e1, _, _, e2, ?_⟩
  dsimp only at e
  split at e
  · split at e
    · rename_i hz; cases e; exact ⟨_, rfl, _, rfl, hz, q⟩
    · cases e
  · cases e), fun ⟨o, h1, e1, o2, h2, e2, i, ei, j, ej, hz, q⟩ => by
  subst ei; subst ej
  exact ⟨_, _, _, by unfold iRange2; rw [e1]; show ((mb ρ h1).bind _) = _; rw [e2]; show (if _ then _ else _) = _; rw [if_pos hz], q⟩⟩
@[simp ↓] theorem wI_Range3 (ma mb mc : EM) (ρ : Rho) (h : Hs) (Q : List D → Gd → Hs → Prop) : wI (iRange3 ma mb mc) ρ h Q = wE ma ρ h (fun d h1 => wE mb ρ h1 (fun d2 h2 => wE mc ρ h2 (fun d3 h3 => inP d (fun i => inP d2 (fun j => inP d3 (fun c => (c = -1 ∧ -(2 ^ 62) ≤ i ∧ i < 2 ^ 62 ∧ -(2 ^ 62) ≤ j ∧ j < 2 ^ 62) ∧ Q (rangeD i (-1) (i - j).toNat) none h3)))))) := propext ⟨fun ⟨d, gd, h', e, q⟩ => (by
  unfold iRange3 at e
  obtain ⟨⟨o, h1⟩, e1, e⟩ := bind_some e
  obtain ⟨⟨o2, h2⟩, e2, e⟩ := bind_some e
  obtain ⟨⟨o3, h3⟩, e3, e⟩ := bind_some e
  refine ⟨_, _, e1, _, _, e2, _, _, e3, ?_⟩
  dsimp only at e
  split at e
  · split at e
    · rename_i hz; cases e; exact ⟨_, rfl, _, rfl, _, rfl, hz, q⟩
    · cases e
  · cases e), fun ⟨o, h1, e1, o2, h2, e2, o3, h3, e3, i, ei, j, ej, c, ec, hz, q⟩ => by
  subst ei; subst ej; subst ec
  exact ⟨_, _, _, by unfold iRange3; rw [e1]; show ((mb ρ h1).bind _) = _; rw [e2]; show ((mc ρ h2).bind _) = _; rw [e3]; show (if _ then _ else _) = _; rw [if_pos hz], q⟩⟩
def sqE (h : Hs) (d : D) (Q : List D → Gd → Prop) : Prop := match d with
  | .tup xs => Q (enumD xs) none
  | .loc n => ∃ xs, itemsAt h n = some xs ∧ Q (enumD xs) (some (n, xs))
  | _ => False
@[simp ↓] theorem wI_Enum (me : EM) (ρ : Rho) (h : Hs) (Q : List D → Gd → Hs → Prop) : wI (iEnum me) ρ h Q = wE me ρ h (fun d h1 => sqE h1 d (fun xs gd => Q xs gd h1)) := propext ⟨fun ⟨d, gd, h', e, q⟩ => (by
  unfold iEnum at e
  obtain ⟨⟨o, h1⟩, e1, e⟩ := bind_some e
  refine ⟨o, h1, e1, ?_⟩
  cases o with
  | tup xs => cases e; exact q
  | loc n => dsimp only at e
             cases z : itemsAt h1 n with
             | none => rw [z] at e; cases e
             | some xs => rw [z] at e; cases e; exact ⟨_, z, q⟩
  | _ => cases e), fun ⟨o, h1, e1, w⟩ => by
  cases o with
  | tup xs => exact ⟨_, _, _, by show ((me ρ h).bind _) = _; rw [e1]; rfl, w⟩
  | loc n => obtain ⟨xs, z, w⟩ := w
             exact ⟨_, _, _, by show ((me ρ h).bind _) = _; rw [e1]; show (Option.map _ (itemsAt h1 n)) = _; rw [z]; rfl, w⟩
  | _ => exact w.elim⟩
/-! ### statements -/
def seqK (b : SM) (Q : QS) : QS := fun f ρ h => match f with
  | .nx => wS b ρ h Q
  | f => Q f ρ h
@[simp ↓] theorem seqK_nx (b : SM) (Q : QS) (ρ : Rho) (h : Hs) : seqK b Q .nx ρ h = wS b ρ h Q := rfl
@[simp ↓] theorem seqK_bk (b : SM) (Q : QS) (ρ : Rho) (h : Hs) : seqK b Q .bk ρ h = Q .bk ρ h := rfl
@[simp ↓] theorem seqK_ct (b : SM) (Q : QS) (ρ : Rho) (h : Hs) : seqK b Q .ct ρ h = Q .ct ρ h := rfl
@[simp ↓] theorem seqK_rt (b : SM) (Q : QS) (d : D) (ρ : Rho) (h : Hs) : seqK b Q (.rt d) ρ h = Q (.rt d) ρ h := rfl
@[simp ↓] theorem wS_Next (ρ : Rho) (h : Hs) (Q : QS) : wS sNext ρ h Q = Q .nx ρ h := propext ⟨fun ⟨_, _, _, e, q⟩ => (by cases e; exact q), fun q => ⟨_, _, _, rfl, q⟩⟩
@[simp ↓] theorem wS_Break (ρ : Rho) (h : Hs) (Q : QS) : wS sBreak ρ h Q = Q .bk ρ h := propext ⟨fun ⟨_, _, _, e, q⟩ => (by cases e; exact q), fun q => ⟨_, _, _, rfl, q⟩⟩
@[simp ↓] theorem wS_Cont (ρ : Rho) (h : Hs) (Q : QS) : wS sCont ρ h Q = Q .ct ρ h := propext ⟨fun ⟨_, _, _, e, q⟩ => (by cases e; exact q), fun q => ⟨_, _, _, rfl, q⟩⟩
@[simp ↓] theorem wS_RetN (ρ : Rho) (h : Hs) (Q : QS) : wS sRetN ρ h Q = Q (.rt .non) ρ h := propext ⟨fun ⟨_, _, _, e, q⟩ => (by cases e; exact q), fun q => ⟨_, _, _, rfl, q⟩⟩
@[simp ↓] theorem wS_Seq (a b : SM) (ρ : Rho) (h : Hs) (Q : QS) : wS (sSeq a b) ρ h Q = wS a ρ h (seqK b Q) := propext ⟨fun ⟨f, ρ', h', e, q⟩ => (by
  unfold sSeq at e
  split at e
  · rename_i ρ1 h1 e1
    exact ⟨_, _, _, e1, f, ρ', h', e, q⟩
  · rename_i r hr
    refine ⟨f, ρ', h', e, ?_⟩
    cases f with
    | nx => exact (hr _ _ e).elim
    | _ => exact q), fun ⟨f, ρ', h', e, q⟩ => by
  cases f with
  | nx => obtain ⟨f2, ρ2, h2, e2, q2⟩ := q
          exact ⟨f2, ρ2, h2, by unfold sSeq; rw [e]; exact e2, q2⟩
  | _ => exact ⟨_, _, _, by unfold sSeq; rw [e], q⟩⟩
@[simp ↓] theorem wS_Set (me : EM) (g : GM) (ρ : Rho) (h : Hs) (Q : QS) : wS (sSet me g) ρ h Q = wE me ρ h (fun d h1 => wG g d ρ h1 (fun ρ2 h2 => Q .nx ρ2 h2)) := propext ⟨fun ⟨f, ρ', h', e, q⟩ => (by
  unfold sSet at e
  obtain ⟨⟨o, h1⟩, e1, e⟩ := bind_some e
  cases z : g o ρ h1 with
  | none => dsimp only at e; rw [z] at e; cases e
  | some r => dsimp only at e; rw [z] at e; cases e; exact ⟨_, _, e1, _, _, z, q⟩), fun ⟨o, h1, e1, ρ2, h2, e2, q⟩ => ⟨_, _, _, by unfold sSet; rw [e1]; show (Option.map _ (g o ρ h1)) = _; rw [e2]; rfl, q⟩⟩
@[simp ↓] theorem wS_Expr (me : EM) (ρ : Rho) (h : Hs) (Q : QS) : wS (sExpr me) ρ h Q = wE me ρ h (fun _ h1 => Q .nx ρ h1) := propext ⟨fun ⟨f, ρ', h', e, q⟩ => (by
  unfold sExpr at e
  cases z : me ρ h with
  | none => rw [z] at e; cases e
  | some r => rw [z] at e; cases e; exact ⟨_, _, z, q⟩), fun ⟨o, h1, e1, q⟩ => ⟨_, _, _, by unfold sExpr; rw [show me ρ h = _ from e1]; rfl, q⟩⟩
@[simp ↓] theorem wS_Ret (me : EM) (ρ : Rho) (h : Hs) (Q : QS) : wS (sRet me) ρ h Q = wE me ρ h (fun d h1 => Q (.rt d) ρ h1) := propext ⟨fun ⟨f, ρ', h', e, q⟩ => (by
  unfold sRet at e
  cases z : me ρ h with
  | none => rw [z] at e; cases e
  | some r => rw [z] at e; cases e; exact ⟨_, _, z, q⟩), fun ⟨o, h1, e1, q⟩ => ⟨_, _, _, by unfold sRet; rw [show me ρ h = _ from e1]; rfl, q⟩⟩
@[simp ↓] theorem wS_If (mt : BM) (a b : SM) (ρ : Rho) (h : Hs) (Q : QS) : wS (sIf mt a b) ρ h Q = wB mt ρ h (fun c h1 => if c = true then wS a ρ h1 Q else wS b ρ h1 Q) := propext ⟨fun ⟨f, ρ', h', e, q⟩ => (by
  unfold sIf at e
  obtain ⟨⟨o, h1⟩, e1, e⟩ := bind_some e
  refine ⟨_, _, e1, ?_⟩
  cases o
  · exact ⟨f, ρ', h', e, q⟩
  · exact ⟨f, ρ', h', e, q⟩), fun ⟨o, h1, e1, w⟩ => by
  cases o
  · obtain ⟨f, ρ', h', e, q⟩ := w; exact ⟨f, ρ', h', by unfold sIf; rw [e1]; exact e, q⟩
  · obtain ⟨f, ρ', h', e, q⟩ := w; exact ⟨f, ρ', h', by unfold sIf; rw [e1]; exact e, q⟩⟩
@[simp ↓] theorem wS_Aug (i : Nat) (me : EM) (g : O2) (ρ : Rho) (h : Hs) (Q : QS) : wS (sAug i me g) ρ h Q = wE (mVar i) ρ h (fun x h0 => wE me ρ h0 (fun y h1 => wO (g x y h1) (fun d h2 => Q .nx (ρ.set i (some d)) h2))) := propext ⟨fun ⟨f, ρ', h', e, q⟩ => (by
  unfold sAug at e
  obtain ⟨⟨o, h1⟩, e1, e⟩ := bind_some e
  obtain ⟨⟨o2, h2⟩, e2, e⟩ := bind_some e
  cases z : g o o2 h2 with
  | none => dsimp only at e; rw [z] at e; cases e
  | some r => dsimp only at e; rw [z] at e; cases e; exact ⟨_, _, e1, _, _, e2, _, _, z, q⟩), fun ⟨o, h1, e1, o2, h2, e2, d, h3, z, q⟩ => ⟨_, _, _, by unfold sAug; rw [show mVar i ρ h = _ from e1]; show ((me ρ h1).bind _) = _; rw [e2]; show (Option.map _ (g o o2 h2)) = _; rw [z]; rfl, q⟩⟩
@[simp ↓] theorem wS_Par (is : List Nat) (ma : AM) (ρ : Rho) (h : Hs) (Q : QS) : wS (sPar is ma) ρ h Q = wA ma ρ h (fun ds h1 => ds.length = is.length ∧ Q .nx (setAll ρ is ds) h1) := propext ⟨fun ⟨f, ρ', h', e, q⟩ => (by
  unfold sPar at e
  obtain ⟨⟨o, h1⟩, e1, e⟩ := bind_some e
  by_cases hn : o.length = is.length
  · rw [if_pos hn] at e; cases e; exact ⟨_, _, e1, hn, q⟩
  · rw [if_neg hn] at e; cases e), fun ⟨o, h1, e1, hn, q⟩ => ⟨_, _, _, by unfold sPar; rw [e1]; show (if _ then _ else _) = _; rw [if_pos hn], q⟩⟩
def wFor (gd : Gd) (g : GM) (body : SM) (xs : List D) (ρ : Rho) (h : Hs) (Q : QS) : Prop := wS (forM gd g body xs) ρ h Q
@[simp ↓] theorem wS_For (mi : IM) (g : GM) (body : SM) (ρ : Rho) (h : Hs) (Q : QS) : wS (sFor mi g body) ρ h Q = wI mi ρ h (fun xs gd h1 => wFor gd g body xs ρ h1 Q) := propext ⟨fun ⟨f, ρ', h', e, q⟩ => (by
  unfold sFor at e
  obtain ⟨⟨⟨xs, gd⟩, h1⟩, e1, e⟩ := bind_some e
  exact ⟨_, _, _, e1, f, ρ', h', e, q⟩), fun ⟨xs, gd, h1, e1, f, ρ', h', e, q⟩ => ⟨_, _, _, by unfold sFor; rw [e1]; exact e, q⟩⟩
/-! ### loops -/
def loopK (I : Rho → Hs → Prop) (Q : QS) : QS := fun f ρ h => match f with
  | .nx => I ρ h
  | .ct => I ρ h
  | .bk => Q .nx ρ h
  | .rt d => Q (.rt d) ρ h
@[simp ↓] theorem loopK_nx (I : Rho → Hs → Prop) (Q : QS) (ρ : Rho) (h : Hs) : loopK I Q .nx ρ h = I ρ h := rfl
@[simp ↓] theorem loopK_ct (I : Rho → Hs → Prop) (Q : QS) (ρ : Rho) (h : Hs) : loopK I Q .ct ρ h = I ρ h := rfl
@[simp ↓] theorem loopK_bk (I : Rho → Hs → Prop) (Q : QS) (ρ : Rho) (h : Hs) : loopK I Q .bk ρ h = Q .nx ρ h := rfl
@[simp ↓] theorem loopK_rt (I : Rho → Hs → Prop) (Q : QS) (d : D) (ρ : Rho) (h : Hs) : loopK I Q (.rt d) ρ h = Q (.rt d) ρ h := rfl
theorem wFor_nil {gd : Gd} {g : GM} {body : SM} {ρ : Rho} {h : Hs} {Q : QS} (hg : gOk gd h) (q : Q .nx ρ h) : wFor gd g body [] ρ h Q := ⟨_, _, _, by unfold forM; rw [if_pos hg], q⟩
theorem wFor_cons {gd : Gd} {g : GM} {body : SM} {x : D} {xs : List D} {ρ : Rho} {h : Hs} {Q : QS} (hg : gOk gd h) (w : wG g x ρ h (fun ρ1 h1 => wS body ρ1 h1 (loopK (fun ρ2 h2 => wFor gd g body xs ρ2 h2 Q) Q))) : wFor gd g body (x :: xs) ρ h Q := by
  obtain ⟨ρ1, h1, e1, f, ρ2, h2, e2, q⟩ := w
  cases f with
  | nx => obtain ⟨f3, ρ3, h3, e3, q3⟩ := q
          exact ⟨f3, ρ3, h3, by unfold forM; rw [if_pos hg, e1]; dsimp only [Option.bind_some]; rw [e2]; exact e3, q3⟩
  | ct => obtain ⟨f3, ρ3, h3, e3, q3⟩ := q
          exact ⟨f3, ρ3, h3, by unfold forM; rw [if_pos hg, e1]; dsimp only [Option.bind_some]; rw [e2]; exact e3, q3⟩
  | bk => exact ⟨_, _, _, by unfold forM; rw [if_pos hg, e1]; dsimp only [Option.bind_some]; rw [e2], q⟩
  | rt d => exact ⟨_, _, _, by unfold forM; rw [if_pos hg, e1]; dsimp only [Option.bind_some]; rw [e2], q⟩
/-- a loop by its invariant: after i turns -/
theorem wFor_inv {gd : Gd} {g : GM} {body : SM} {xs : List D} {ρ : Rho} {h : Hs} {Q : QS} (I : Nat → Rho → Hs → Prop) (h0 : I 0 ρ h)
    (step : ∀ (i : Nat) (x : D) (ρ : Rho) (h : Hs), xs[i]? = some x → I i ρ h → gOk gd h ∧ wG g x ρ h (fun ρ1 h1 => wS body ρ1 h1 (loopK (I (i + 1)) Q)))
    (fin : ∀ (ρ : Rho) (h : Hs), I xs.length ρ h → gOk gd h ∧ Q .nx ρ h) : wFor gd g body xs ρ h Q := by
  have : ∀ (n i : Nat) (ρ : Rho) (h : Hs), n + i = xs.length → I i ρ h → wFor gd g body (xs.drop i) ρ h Q := by
    intro n
    induction n with
    | zero =>
      intro i ρ h hn hi
      have : i = xs.length := by omega
      subst this
      rw [List.drop_length]
      obtain ⟨a, b⟩ := fin ρ h hi
      exact wFor_nil a b
    | succ n ih =>
      intro i ρ h hn hi
      have hl : i < xs.length := by omega
      rw [List.drop_eq_getElem_cons hl]
      obtain ⟨a, b⟩ := step i xs[i] ρ h (List.getElem?_eq_getElem hl) hi
      refine wFor_cons a (b.imp fun ρ1 h1 w => w.imp fun f ρ2 h2 q => ?_)
      cases f with
      | nx => exact ih (i + 1) ρ2 h2 (by omega) q
      | ct => exact ih (i + 1) ρ2 h2 (by omega) q
      | bk => exact q
      | rt d => exact q
  have := this xs.length 0 ρ h (by omega) h0
  rwa [List.drop_zero] at this
/-! ### comprehensions -/
def wLc (gd : Gd) (g : GM) (mt : BM) (me : EM) (ρ0 : Rho) (n0 : Nat) (xs : List D) (h : Hs) (Q : Hs → Prop) : Prop := ∃ h', lcLoop gd g mt me ρ0 n0 xs h = some h' ∧ Q h'
@[simp ↓] theorem wE_Lc (mi : IM) (g : GM) (mt : BM) (me : EM) (vs : List Nat) (ρ : Rho) (h : Hs) (Q : QE) : wE (mLc mi g mt me vs) ρ h Q = wI mi ρ h (fun xs gd h1 => wLc gd g mt me (wipeR ρ vs) h1.length xs (h1 ++ [.lst []]) (fun h2 => Q (.loc h1.length) h2)) := propext ⟨fun ⟨d, h', e, q⟩ => (by
  unfold mLc at e
  obtain ⟨⟨⟨xs, gd⟩, h1⟩, e1, e⟩ := bind_some e
  cases z : lcLoop gd g mt me (wipeR ρ vs) h1.length xs (h1 ++ [.lst []]) with
  | none => dsimp only at e; rw [z] at e; cases e
  | some h2 => dsimp only at e; rw [z] at e; cases e; exact ⟨_, _, _, e1, _, z, q⟩), fun ⟨xs, gd, h1, e1, h2, z, q⟩ => ⟨_, _, by unfold mLc; rw [e1]; show (Option.map _ (lcLoop _ _ _ _ _ _ _ _)) = _; rw [z]; rfl, q⟩⟩
theorem wLc_nil {gd : Gd} {g : GM} {mt : BM} {me : EM} {ρ0 : Rho} {n0 : Nat} {h : Hs} {Q : Hs → Prop} (hg : gOk gd h) (q : Q h) : wLc gd g mt me ρ0 n0 [] h Q := ⟨h, by unfold lcLoop; rw [if_pos hg], q⟩
theorem wLc_cons {gd : Gd} {g : GM} {mt : BM} {me : EM} {ρ0 : Rho} {n0 : Nat} {x : D} {xs : List D} {h : Hs} {Q : Hs → Prop} (hg : gOk gd h)
    (w : wG g x ρ0 h (fun ρ1 h1 => wB mt ρ1 h1 (fun b h2 => if b = true then wE me ρ1 h2 (fun y h3 => ∃ acc, h3[n0]? = some (.lst acc) ∧ acc.length < sizeLine ∧ wLc gd g mt me ρ0 n0 xs (h3.set n0 (.lst (acc ++ [y]))) Q) else wLc gd g mt me ρ0 n0 xs h2 Q))) : wLc gd g mt me ρ0 n0 (x :: xs) h Q := by
  obtain ⟨ρ1, h1, e1, b, h2, e2, w⟩ := w
  cases b
  · obtain ⟨h4, e4, q⟩ := w
    exact ⟨h4, by unfold lcLoop; rw [if_pos hg, e1]; show ((mt ρ1 h1).bind _) = _; rw [e2]; exact e4, q⟩
  · obtain ⟨y, h3, e3, acc, e5, hl, h4, e4, q⟩ := w
    exact ⟨h4, by unfold lcLoop; rw [if_pos hg, e1]; show ((mt ρ1 h1).bind _) = _; rw [e2]; show ((me ρ1 h2).bind _) = _; rw [e3]; dsimp only [Option.bind_some]; rw [e5]; show (if _ then _ else _) = _; rw [if_pos hl]; exact e4, q⟩
/-! ### a def -/
theorem wF_run {m : SM} {size : Nat} {ds : List D} {h : Hs} {Q : QE} (w : wS m (ds.map some ++ List.replicate (size - ds.length) none) h (fun f ρ h' => match f with
    | .rt d => Q d h'
    | .nx => Q .non h'
    | _ => False)) : wF (runF m size) ds h Q := by
  obtain ⟨f, ρ', h', e, q⟩ := w
  cases f with
  | nx => exact ⟨_, _, by unfold runF; rw [e], q⟩
  | rt d => exact ⟨_, _, by unfold runF; rw [e], q⟩
  | _ => exact q.elim
def retK (Q : QE) : QS := fun f ρ h' => match f with
  | .rt d => Q d h'
  | .nx => Q .non h'
  | _ => False
@[simp ↓] theorem retK_rt (Q : QE) (d : D) (ρ : Rho) (h : Hs) : retK Q (.rt d) ρ h = Q d h := rfl
@[simp ↓] theorem retK_nx (Q : QE) (ρ : Rho) (h : Hs) : retK Q .nx ρ h = Q .non h := rfl
theorem wF_runK {m : SM} {size : Nat} {ds : List D} {h : Hs} {Q : QE} (w : wS m (ds.map some ++ List.replicate (size - ds.length) none) h (retK Q)) : wF (runF m size) ds h Q := wF_run w
end MP

/-! text Mini16 -/
set_option Elab.async false
set_option linter.all false
set_option maxRecDepth 100000
set_option maxHeartbeats 4000000
/-! Plain facts for walking the shallow terms by simp: operations at constructors, frames, comprehensions. -/
namespace MP
open PySem PySem.Spec PyProof.Rows
open L2 hiding St

/-! ### the heap's frames -/
/-- all places of h but those of ms stand in h' as they stood -/
structure Fm (ms : List Nat) (h h' : Hs) : Prop where
  len : h.length ≤ h'.length
  at_ : ∀ l, l < h.length → l ∉ ms → h'[l]? = h[l]?
theorem lt_of_get {h : Hs} {l : Nat} {o : AO} (e : h[l]? = some o) : l < h.length := (List.getElem?_eq_some_iff.mp e).1
@[simp] theorem Fm.refl (ms : List Nat) (h : Hs) : Fm ms h h := ⟨Nat.le_refl _, fun _ _ _ => rfl⟩
theorem Fm.get {ms : List Nat} {h h' : Hs} {l : Nat} {o : AO} (f : Fm ms h h') (e : h[l]? = some o) (n : l ∉ ms) : h'[l]? = some o := by rw [f.at_ l (lt_of_get e) n, e]
theorem Fm.get0 {h h' : Hs} {l : Nat} {o : AO} (f : Fm [] h h') (e : h[l]? = some o) : h'[l]? = some o := f.get e (by simp)
theorem Fm.trans {ms : List Nat} {h h' h'' : Hs} (a : Fm ms h h') (b : Fm ms h' h'') : Fm ms h h'' := ⟨Nat.le_trans a.len b.len, fun l hl hn => by rw [b.at_ l (Nat.lt_of_lt_of_le hl a.len) hn, a.at_ l hl hn]⟩
/-- a further step that writes only allowed or new places -/
theorem Fm.then {ms ns : List Nat} {h h' h'' : Hs} (a : Fm ms h h') (b : Fm ns h' h'') (c : ∀ l ∈ ns, l ∈ ms ∨ h.length ≤ l) : Fm ms h h'' :=
  ⟨Nat.le_trans a.len b.len, fun l hl hn => by
    rw [b.at_ l (Nat.lt_of_lt_of_le hl a.len) fun z => (c l z).elim hn (fun q => by omega), a.at_ l hl hn]⟩
theorem Fm.then0 {ms : List Nat} {h h' h'' : Hs} (a : Fm ms h h') (b : Fm [] h' h'') : Fm ms h h'' := a.then b (by simp)
theorem Fm.then1 {ms : List Nat} {n : Nat} {h h' h'' : Hs} (a : Fm ms h h') (b : Fm [n] h' h'') (c : n ∈ ms ∨ h.length ≤ n) : Fm ms h h'' := a.then b (by simpa using c)
theorem Fm.app {ms : List Nat} {h h' : Hs} (a : Fm ms h h') (e : List AO) : Fm ms h (h' ++ e) :=
  ⟨by rw [List.length_append]; have := a.len; omega, fun l hl hn => by rw [List.getElem?_append_left (Nat.lt_of_lt_of_le hl a.len)]; exact a.at_ l hl hn⟩
theorem Fm.set {ms : List Nat} {h h' : Hs} (a : Fm ms h h') {n : Nat} (o : AO) (c : n ∈ ms ∨ h.length ≤ n) : Fm ms h (h'.set n o) :=
  ⟨by rw [List.length_set]; exact a.len, fun l hl hn => by rw [List.getElem?_set_ne (by rintro rfl; rcases c with c | c; exact hn c; omega)]; exact a.at_ l hl hn⟩
theorem Fm.mono {ms ns : List Nat} {h h' : Hs} (a : Fm ms h h') (c : ∀ l ∈ ms, l ∈ ns) : Fm ns h h' := ⟨a.len, fun l hl hn => a.at_ l hl fun z => hn (c l z)⟩
theorem Fm.of0 {ms : List Nat} {h h' : Hs} (a : Fm [] h h') : Fm ms h h' := a.mono (by simp)
theorem app_get {h : Hs} {l : Nat} {o : AO} (e : h[l]? = some o) (x : List AO) : (h ++ x)[l]? = some o := by rw [List.getElem?_append_left (lt_of_get e)]; exact e
theorem app_new (h : Hs) (o : AO) : (h ++ [o])[h.length]? = some o := by simp
theorem set_get {h : Hs} {l : Nat} {o o' : AO} (e : h[l]? = some o') : (h.set l o)[l]? = some o := by rw [List.getElem?_set_self (lt_of_get e)]
theorem set_oth {h : Hs} {l m : Nat} {o o' : AO} (e : h[l]? = some o) (n : m ≠ l) : (h.set m o')[l]? = some o := by rw [List.getElem?_set_ne n]; exact e
theorem items_lst {h : Hs} {n : Nat} {xs : List D} (e : h[n]? = some (.lst xs)) : itemsAt h n = some xs := by unfold itemsAt; rw [e]
theorem items_frz {h : Hs} {n : Nat} {ns : List Int} (e : h[n]? = some (.frz ns)) : itemsAt h n = some (ns.map D.int) := by unfold itemsAt; rw [e]
/-- the things of a list that may be written -/
def lstAt (h : Hs) (n : Nat) : Option (List D) := match h[n]? with
  | some (.lst xs) => some xs
  | _ => none
/-- a list stands there -/
def Ls (h : Hs) (n : Nat) (xs : List D) : Prop := h[n]? = some (.lst xs)
theorem Ls.i {h : Hs} {n : Nat} {xs : List D} (e : Ls h n xs) : itemsAt h n = some xs := items_lst e
theorem Ls.l {h : Hs} {n : Nat} {xs : List D} (e : Ls h n xs) : lstAt h n = some xs := by unfold lstAt; rw [show h[n]? = _ from e]
theorem Ls.lt {h : Hs} {n : Nat} {xs : List D} (e : Ls h n xs) : n < h.length := lt_of_get e
theorem Ls.new (h : Hs) (xs : List D) : Ls (h ++ [.lst xs]) h.length xs := app_new h _
theorem Ls.app {h : Hs} {n : Nat} {xs : List D} (e : Ls h n xs) (x : List AO) : Ls (h ++ x) n xs := app_get e x
theorem Ls.keep {h h' : Hs} {n : Nat} {xs : List D} {ms : List Nat} (e : Ls h n xs) (f : Fm ms h h') (c : n ∉ ms) : Ls h' n xs := f.get e c
theorem Ls.keep0 {h h' : Hs} {n : Nat} {xs : List D} (e : Ls h n xs) (f : Fm [] h h') : Ls h' n xs := f.get0 e
theorem Ls.set {h : Hs} {n : Nat} {xs : List D} (e : Ls h n xs) (ys : List D) : Ls (h.set n (.lst ys)) n ys := set_get e
theorem Ls.oth {h : Hs} {n m : Nat} {xs : List D} {o : AO} (e : Ls h n xs) (c : m ≠ n) : Ls (h.set m o) n xs := set_oth e c
@[simp] theorem lst_set_self {h : Hs} {n : Nat} {xs : List D} (hl : n < h.length) : lstAt (h.set n (.lst xs)) n = some xs := by unfold lstAt; rw [List.getElem?_set_self hl]
@[simp] theorem lst_set_ne {h : Hs} {n m : Nat} {o : AO} (hn : n ≠ m) : lstAt (h.set n o) m = lstAt h m := by unfold lstAt; rw [List.getElem?_set_ne hn]
@[simp] theorem lst_app_new {h : Hs} {xs : List D} : lstAt (h ++ [.lst xs]) h.length = some xs := (Ls.new h xs).l
@[simp] theorem lst_app_old {h : Hs} {m : Nat} {e : List AO} (hl : m < h.length) : lstAt (h ++ e) m = lstAt h m := by unfold lstAt; rw [List.getElem?_append_left hl]
@[simp] theorem items_set_self {h : Hs} {n : Nat} {xs : List D} (hl : n < h.length) : itemsAt (h.set n (.lst xs)) n = some xs := items_lst (by rw [List.getElem?_set_self hl])
@[simp] theorem items_set_ne {h : Hs} {n m : Nat} {o : AO} (hn : n ≠ m) : itemsAt (h.set n o) m = itemsAt h m := by unfold itemsAt; rw [List.getElem?_set_ne hn]
@[simp] theorem items_app_new {h : Hs} {xs : List D} : itemsAt (h ++ [.lst xs]) h.length = some xs := items_lst (app_new h _)
@[simp] theorem items_app_old {h : Hs} {m : Nat} {e : List AO} (hl : m < h.length) : itemsAt (h ++ e) m = itemsAt h m := by unfold itemsAt; rw [List.getElem?_append_left hl]
@[simp] theorem get_set_self' {h : Hs} {n : Nat} {o : AO} (hl : n < h.length) : (h.set n o)[n]? = some o := by rw [List.getElem?_set_self hl]
theorem isLst_of {h : Hs} {n : Nat} {xs : List D} (e : Ls h n xs) : isLst h (.loc n) = true := by
  show (match h[n]? with | some (.lst _) => true | some (.frz _) => true | _ => false) = true
  rw [show h[n]? = _ from e]
@[simp] theorem isLst_set {h : Hs} {n : Nat} {xs : List D} (hl : n < h.length) : isLst (h.set n (.lst xs)) (.loc n) = true := isLst_of (by show (h.set n _)[n]? = _; rw [List.getElem?_set_self hl])
@[simp] theorem isLst_set_ne {h : Hs} {n m : Nat} {o : AO} (hn : n ≠ m) : isLst (h.set n o) (.loc m) = isLst h (.loc m) := by
  show (match (h.set n o)[m]? with | some (.lst _) => true | some (.frz _) => true | _ => false) = (match h[m]? with | some (.lst _) => true | some (.frz _) => true | _ => false)
  rw [List.getElem?_set_ne hn]
@[simp] theorem isLst_app_new {h : Hs} {xs : List D} : isLst (h ++ [.lst xs]) (.loc h.length) = true := isLst_of (Ls.new h xs)
@[simp] theorem isLst_app_old {h : Hs} {m : Nat} {e : List AO} (hl : m < h.length) : isLst (h ++ e) (.loc m) = isLst h (.loc m) := by
  show (match (h ++ e)[m]? with | some (.lst _) => true | some (.frz _) => true | _ => false) = (match h[m]? with | some (.lst _) => true | some (.frz _) => true | _ => false)
  rw [List.getElem?_append_left hl]
@[simp] theorem wipeR_nil (ρ : Rho) : wipeR ρ [] = ρ := rfl
@[simp] theorem wipeR_cons (ρ : Rho) (v : Nat) (vs : List Nat) : wipeR ρ (v :: vs) = (wipeR ρ vs).set v none := rfl
@[simp] theorem setAll_nil (ρ : Rho) (ds : List D) : setAll ρ [] ds = ρ := by cases ds <;> rfl
@[simp] theorem setAll_cons (ρ : Rho) (i : Nat) (is : List Nat) (d : D) (ds : List D) : setAll ρ (i :: is) (d :: ds) = setAll (ρ.set i (some d)) is ds := rfl
/-! ### operations at constructors -/
section
variable (h : Hs)
@[simp] theorem add_ii (i j : Int) : addD (.int i) (.int j) h = some (.int (i + j), h) := rfl
@[simp] theorem add_tt (xs ys : List D) : addD (.tup xs) (.tup ys) h = if xs.length + ys.length ≤ sizeLine then some (.tup (xs ++ ys), h) else none := rfl
@[simp] theorem add_ss (a b : Str) : addD (.str a) (.str b) h = if a.length + b.length ≤ sizeLine then some (.str (a ++ b), h) else none := rfl
@[simp] theorem sub_ii (i j : Int) : subD (.int i) (.int j) h = some (.int (i - j), h) := rfl
@[simp] theorem mul_ii (i j : Int) : mulD (.int i) (.int j) h = if smul i j = true then some (.int (i * j), h) else none := rfl
@[simp] theorem mul_si (a : Str) (j : Int) : mulD (.str a) (.int j) h = if a.length ≤ 1000 ∧ -1000 ≤ j ∧ j ≤ 1000 then some (.str (Txt.mul a j), h) else none := rfl
@[simp] theorem mod_ii (i j : Int) : modD (.int i) (.int j) h = if 0 < j then some (.int (i % j), h) else none := rfl
@[simp] theorem fdiv_ii (i j : Int) : fdivD (.int i) (.int j) h = if 0 < j ∧ j < 1073741824 then some (.int (i / j), h) else none := rfl
@[simp] theorem pow_ii (i j : Int) : powD (.int i) (.int j) h = if 0 ≤ j ∧ j ≤ 1000000 ∧ i.natAbs < 2 ^ 64 then some (.int (i ^ j.toNat), h) else none := rfl
@[simp] theorem neg_i (i : Int) : negO (.int i) h = some (.int (-i), h) := rfl
@[simp] theorem smul_r {i j : Int} (hj : -(2 ^ 64) < j) (hj' : j < 2 ^ 64) : smul i j = true := by unfold smul; rw [decide_eq_true hj, decide_eq_true hj']; simp
@[simp] theorem smul_l {i j : Int} (hj : -(2 ^ 64) < i) (hj' : i < 2 ^ 64) : smul i j = true := by unfold smul; rw [decide_eq_true hj, decide_eq_true hj']; simp
/- order -/
@[simp] theorem lt_ii (i j : Int) : ltO (.int i) (.int j) h = some (.bl (decide (i < j)), h) := rfl
@[simp] theorem le_ii (i j : Int) : leO (.int i) (.int j) h = some (.bl (decide (i ≤ j)), h) := rfl
@[simp] theorem gt_ii (i j : Int) : gtO (.int i) (.int j) h = some (.bl (decide (j < i)), h) := rfl
@[simp] theorem ge_ii (i j : Int) : geO (.int i) (.int j) h = some (.bl (decide (j ≤ i)), h) := rfl
/- equality of scalars -/
@[simp] theorem eq_ii (i j : Int) : eqO (.int i) (.int j) h = some (.bl (decide (i = j)), h) := rfl
@[simp] theorem eq_ss (i j : Str) : eqO (.str i) (.str j) h = some (.bl (decide (i = j)), h) := rfl
@[simp] theorem eq_bb (i j : Bool) : eqO (.bl i) (.bl j) h = some (.bl (decide (i = j)), h) := rfl
@[simp] theorem eq_nn : eqO .non .non h = some (.bl true, h) := rfl
@[simp] theorem eq_ni (i : Int) : eqO .non (.int i) h = some (.bl false, h) := rfl
@[simp] theorem eq_in (i : Int) : eqO (.int i) .non h = some (.bl false, h) := rfl
@[simp] theorem eq_ns (i : Str) : eqO .non (.str i) h = some (.bl false, h) := rfl
@[simp] theorem eq_sn (i : Str) : eqO (.str i) .non h = some (.bl false, h) := rfl
@[simp] theorem eq_is (i : Int) (j : Str) : eqO (.int i) (.str j) h = some (.bl false, h) := rfl
@[simp] theorem eq_si (i : Str) (j : Int) : eqO (.str i) (.int j) h = some (.bl false, h) := rfl
@[simp] theorem ne_ii (i j : Int) : neO (.int i) (.int j) h = some (.bl (!decide (i = j)), h) := rfl
@[simp] theorem ne_ss (i j : Str) : neO (.str i) (.str j) h = some (.bl (!decide (i = j)), h) := rfl
@[simp] theorem ne_bb (i j : Bool) : neO (.bl i) (.bl j) h = some (.bl (!decide (i = j)), h) := rfl
@[simp] theorem ne_sn (i : Str) : neO (.str i) .non h = some (.bl true, h) := rfl
@[simp] theorem ne_ns (i : Str) : neO .non (.str i) h = some (.bl true, h) := rfl
@[simp] theorem is_n (x : D) : isO x .non h = some (.bl x.isNon, h) := rfl
@[simp] theorem isNot_n (x : D) : isNotO x .non h = some (.bl (!x.isNon), h) := rfl
@[simp] theorem isNon_non : D.isNon .non = true := rfl
@[simp] theorem isNon_bl (b : Bool) : D.isNon (.bl b) = false := rfl
@[simp] theorem isNon_int (b : Int) : D.isNon (.int b) = false := rfl
@[simp] theorem isNon_str (b : Str) : D.isNon (.str b) = false := rfl
@[simp] theorem isNon_tup (b : List D) : D.isNon (.tup b) = false := rfl
@[simp] theorem isNon_loc (b : Nat) : D.isNon (.loc b) = false := rfl
/- truth -/
@[simp] theorem tru_bl (b : Bool) : truD h (.bl b) = some b := rfl
@[simp] theorem tru_non : truD h .non = some false := rfl
@[simp] theorem tru_int (i : Int) : truD h (.int i) = some (i != 0) := rfl
@[simp] theorem tru_tup (xs : List D) : truD h (.tup xs) = some (!xs.isEmpty) := rfl
@[simp] theorem tru_loc (n : Nat) : truD h (.loc n) = (itemsAt h n).map fun xs => !xs.isEmpty := rfl
/- len -/
@[simp] theorem len_tup (xs : List D) : lenN [.tup xs] h = some (.int xs.length, h) := rfl
@[simp] theorem len_loc (n : Nat) : lenN [.loc n] h = (itemsAt h n).map fun xs => (.int xs.length, h) := by show ((Option.map List.length (itemsAt h n)).map _) = _; cases itemsAt h n <;> rfl
@[simp] theorem len_str (x : Str) : lenN [.str x] h = if x.length ≤ sizeLine then some (.int x.length, h) else none := by show (Option.map _ (if _ then _ else _)) = _; split <;> rfl
/- places -/
@[simp] theorem seq_tup (xs : List D) : seqAt h (.tup xs) = some xs := rfl
@[simp] theorem seq_loc (n : Nat) : seqAt h (.loc n) = itemsAt h n := rfl
@[simp] theorem ix_tup (xs : List D) (i : Int) : ixO (.tup xs) (.int i) h = (atI xs i).map fun d => (d, h) := rfl
@[simp] theorem ix_loc (n : Nat) (i : Int) : ixO (.loc n) (.int i) h = match itemsAt h n with
    | some xs => (atI xs i).map fun d => (d, h)
    | none => none := rfl
@[simp] theorem ix_str (z : Str) (i : Int) : ixO (.str z) (.int i) h = if z.length ≤ sizeLine then (atI z.cps.toList i).map fun c => (.str ⟨#[c]⟩, h) else none := rfl
end
section
variable {α : Type} (xs : List α)
theorem atI_nat (k : Nat) : atI xs (k : Int) = xs[k]? := by
  unfold atI ixN
  rw [if_pos (by omega)]
  split
  · simp
  · rw [List.getElem?_eq_none (by omega)]; rfl
@[simp] theorem atI_cast (k : Nat) : atI xs (k : Int) = xs[k]? := atI_nat xs k
@[simp] theorem atI_0 : atI xs 0 = xs[0]? := atI_nat xs 0
@[simp] theorem atI_1 : atI xs 1 = xs[1]? := atI_nat xs 1
@[simp] theorem atI_2 : atI xs 2 = xs[2]? := atI_nat xs 2
@[simp] theorem atI_3 : atI xs 3 = xs[3]? := atI_nat xs 3
@[simp] theorem atI_4 : atI xs 4 = xs[4]? := atI_nat xs 4
@[simp] theorem atI_5 : atI xs 5 = xs[5]? := atI_nat xs 5
@[simp] theorem atI_6 : atI xs 6 = xs[6]? := atI_nat xs 6
@[simp] theorem atI_7 : atI xs 7 = xs[7]? := atI_nat xs 7
@[simp] theorem atI_8 : atI xs 8 = xs[8]? := atI_nat xs 8
@[simp] theorem atI_m1 : atI xs (-1) = xs.getLast? := by
  unfold atI ixN
  rw [if_neg (by omega)]
  cases xs with
  | nil => rfl
  | cons a r =>
    rw [if_pos (by simp; omega)]
    show (a :: r)[(-1 + ((a :: r).length : Int)).toNat]? = _
    rw [List.getLast?_eq_getElem?]
    congr 1
    simp
    omega
end
theorem ixN_nat {n k : Nat} (h : k < n) : ixN n (k : Int) = some k := by unfold ixN; rw [if_pos (by omega), if_pos (by omega)]; simp
@[simp] theorem set_loc (h : Hs) (n : Nat) (k : Int) (d : D) : setD (.loc n) (.int k) d h = match lstAt h n with
  | some xs => match ixN xs.length k with
    | some j => some (h.set n (.lst (xs.set j d)))
    | none => none
  | none => none := by
  unfold lstAt setD
  dsimp only
  cases q : h[n]? with
  | none => rfl
  | some o => cases o <;> rfl
/- calls of built-ins -/
section
variable (h : Hs)
@[simp] theorem int_i (i : Int) : intN [.int i] h = some (.int i, h) := rfl
@[simp] theorem int_b (b : Bool) : intN [.bl b] h = some (.int (if b then 1 else 0), h) := rfl
@[simp] theorem min_ii (i j : Int) : min2N [.int i, .int j] h = some (.int (if j < i then j else i), h) := rfl
@[simp] theorem max_ii (i j : Int) : max2N [.int i, .int j] h = some (.int (if j > i then j else i), h) := rfl
@[simp] theorem tuple_t (xs : List D) : tupleN [.tup xs] h = some (.tup xs, h) := rfl
@[simp] theorem tuple_l (n : Nat) : tupleN [.loc n] h = match itemsAt h n with
    | some xs => some (.tup xs, h)
    | none => none := rfl
@[simp] theorem list_t (xs : List D) : listN [.tup xs] h = some (.loc h.length, h ++ [.lst xs]) := rfl
@[simp] theorem list_l (n : Nat) : listN [.loc n] h = match itemsAt h n with
    | some xs => some (.loc h.length, h ++ [.lst xs])
    | none => none := rfl
@[simp] theorem app_l (n : Nat) (d : D) : appendM (.loc n) [d] h = match lstAt h n with
    | some xs => if xs.length < sizeLine then some (.non, h.set n (.lst (xs ++ [d]))) else none
    | none => none := by
  unfold lstAt appendM
  dsimp only
  cases q : h[n]? with
  | none => rfl
  | some o => cases o <;> rfl
/- isinstance -/
@[simp] theorem ii_int (i : Int) : isinstN [.int i, .ty "int"] h = some (.bl true, h) := rfl
@[simp] theorem ii_bool (i : Int) : isinstN [.int i, .ty "bool"] h = some (.bl false, h) := rfl
@[simp] theorem ii_str (i : Int) : isinstN [.int i, .ty "str"] h = some (.bl false, h) := rfl
@[simp] theorem ii_tuple (i : Int) : isinstN [.int i, .ty "tuple"] h = some (.bl false, h) := rfl
@[simp] theorem ii_list (i : Int) : isinstN [.int i, .ty "list"] h = some (.bl false, h) := rfl
@[simp] theorem is_int (i : Str) : isinstN [.str i, .ty "int"] h = some (.bl false, h) := rfl
@[simp] theorem is_bool (i : Str) : isinstN [.str i, .ty "bool"] h = some (.bl false, h) := rfl
@[simp] theorem is_str (i : Str) : isinstN [.str i, .ty "str"] h = some (.bl true, h) := rfl
@[simp] theorem is_tuple (i : Str) : isinstN [.str i, .ty "tuple"] h = some (.bl false, h) := rfl
@[simp] theorem is_list (i : Str) : isinstN [.str i, .ty "list"] h = some (.bl false, h) := rfl
@[simp] theorem ib_int (i : Bool) : isinstN [.bl i, .ty "int"] h = some (.bl true, h) := rfl
@[simp] theorem ib_bool (i : Bool) : isinstN [.bl i, .ty "bool"] h = some (.bl true, h) := rfl
@[simp] theorem ib_str (i : Bool) : isinstN [.bl i, .ty "str"] h = some (.bl false, h) := rfl
@[simp] theorem ib_tuple (i : Bool) : isinstN [.bl i, .ty "tuple"] h = some (.bl false, h) := rfl
@[simp] theorem ib_list (i : Bool) : isinstN [.bl i, .ty "list"] h = some (.bl false, h) := rfl
@[simp] theorem in_int : isinstN [.non, .ty "int"] h = some (.bl false, h) := rfl
@[simp] theorem in_bool : isinstN [.non, .ty "bool"] h = some (.bl false, h) := rfl
@[simp] theorem in_str : isinstN [.non, .ty "str"] h = some (.bl false, h) := rfl
@[simp] theorem in_tuple : isinstN [.non, .ty "tuple"] h = some (.bl false, h) := rfl
@[simp] theorem it_int (xs : List D) : isinstN [.tup xs, .ty "int"] h = some (.bl false, h) := rfl
@[simp] theorem it_bool (xs : List D) : isinstN [.tup xs, .ty "bool"] h = some (.bl false, h) := rfl
@[simp] theorem it_str (xs : List D) : isinstN [.tup xs, .ty "str"] h = some (.bl false, h) := rfl
@[simp] theorem it_tuple (xs : List D) : isinstN [.tup xs, .ty "tuple"] h = some (.bl true, h) := rfl
@[simp] theorem it_list (xs : List D) : isinstN [.tup xs, .ty "list"] h = some (.bl false, h) := rfl
@[simp] theorem it_tl (xs : List D) : isinstN [.tup xs, .tup [.ty "tuple", .ty "list"]] h = some (.bl true, h) := rfl
@[simp] theorem ii_tl (i : Int) : isinstN [.int i, .tup [.ty "tuple", .ty "list"]] h = some (.bl false, h) := rfl
@[simp] theorem ib_tl (i : Bool) : isinstN [.bl i, .tup [.ty "tuple", .ty "list"]] h = some (.bl false, h) := rfl
@[simp] theorem is_tl (i : Str) : isinstN [.str i, .tup [.ty "tuple", .ty "list"]] h = some (.bl false, h) := rfl
@[simp] theorem in_tl : isinstN [.non, .tup [.ty "tuple", .ty "list"]] h = some (.bl false, h) := rfl
end
/- slices -/
@[simp] theorem sl_tup (xs : List D) (lo hi : Option Int) (h : Hs) : slO (.tup xs) lo hi h = some (.tup ((xs.drop (HT.sIx xs.length 0 lo)).take (HT.sIx xs.length xs.length hi - HT.sIx xs.length 0 lo)), h) := rfl
@[simp] theorem sIx_no (n d : Nat) : HT.sIx n d none = d := rfl
@[simp] theorem sIx_0 (n d : Nat) : HT.sIx n d (some 0) = min 0 n := HT.sIx_nat n d 0
@[simp] theorem sIx_1 (n d : Nat) : HT.sIx n d (some 1) = min 1 n := HT.sIx_nat n d 1
@[simp] theorem sIx_2 (n d : Nat) : HT.sIx n d (some 2) = min 2 n := HT.sIx_nat n d 2
@[simp] theorem sIx_3 (n d : Nat) : HT.sIx n d (some 3) = min 3 n := HT.sIx_nat n d 3
@[simp] theorem sIx_4 (n d : Nat) : HT.sIx n d (some 4) = min 4 n := HT.sIx_nat n d 4
@[simp] theorem sIx_5 (n d : Nat) : HT.sIx n d (some 5) = min 5 n := HT.sIx_nat n d 5
@[simp] theorem sIx_6 (n d : Nat) : HT.sIx n d (some 6) = min 6 n := HT.sIx_nat n d 6
@[simp] theorem sIx_20 (n d : Nat) : HT.sIx n d (some 20) = min 20 n := HT.sIx_nat n d 20
@[simp] theorem sIx_cast (n d k : Nat) : HT.sIx n d (some (k : Int)) = min k n := HT.sIx_nat n d k
@[simp] theorem sl_loc (n : Nat) (lo hi : Option Int) (h : Hs) : slO (.loc n) lo hi h = match itemsAt h n with
    | some xs => some (.loc h.length, h ++ [.lst ((xs.drop (HT.sIx xs.length 0 lo)).take (HT.sIx xs.length xs.length hi - HT.sIx xs.length 0 lo))])
    | none => none := rfl
@[simp] theorem sqI_tup (h : Hs) (xs : List D) (Q : List D → Gd → Prop) : sqI h (.tup xs) Q = Q xs none := rfl
@[simp] theorem sqI_str (h : Hs) (x : Str) (Q : List D → Gd → Prop) : sqI h (.str x) Q = Q (x.cps.toList.map fun c => .str ⟨#[c]⟩) none := rfl
@[simp] theorem sqI_loc (h : Hs) (n : Nat) (Q : List D → Gd → Prop) : sqI h (.loc n) Q = ∃ xs, itemsAt h n = some xs ∧ Q xs (some (n, xs)) := rfl
@[simp] theorem sqE_tup (h : Hs) (xs : List D) (Q : List D → Gd → Prop) : sqE h (.tup xs) Q = Q (enumD xs) none := rfl
@[simp] theorem sqE_loc (h : Hs) (n : Nat) (Q : List D → Gd → Prop) : sqE h (.loc n) Q = ∃ xs, itemsAt h n = some xs ∧ Q (enumD xs) (some (n, xs)) := rfl
/- ranges, guards -/
@[simp] theorem gOk_none (h : Hs) : gOk none h = True := rfl
@[simp] theorem gOk_some (n : Nat) (xs : List D) (h : Hs) : gOk (some (n, xs)) h = (itemsAt h n = some xs) := rfl
theorem rangeD_at {lo c : Int} {n i : Nat} {x : D} (h : (rangeD lo c n)[i]? = some x) : i < n ∧ x = .int (lo + (i : Int) * c) := by
  unfold rangeD at h
  rw [List.getElem?_map] at h
  by_cases hi : i < n
  · rw [List.getElem?_range hi] at h; cases h; exact ⟨hi, rfl⟩
  · rw [List.getElem?_eq_none (by simp; omega)] at h; cases h
@[simp] theorem one_len (c : Nat) : (Str.mk #[c]).length = 1 := rfl
@[simp] theorem sizeLine_val : sizeLine = 16777216 := by decide
/-! ### sorted -/
theorem asStrs_map (xs : List Str) : asStrs (xs.map D.str) = some xs := by
  induction xs with
  | nil => rfl
  | cons x xs ih => show (asStrs (xs.map D.str)).map _ = _; rw [ih]; rfl
theorem asInts_map (xs : List Int) : asInts (xs.map D.int) = some xs := by
  induction xs with
  | nil => rfl
  | cons x xs ih => show (asInts (xs.map D.int)).map _ = _; rw [ih]; rfl
theorem asPairs_map (xs : List (Int × Int)) : asPairs (xs.map pairD) = some xs := by
  induction xs with
  | nil => rfl
  | cons x xs ih => show (asPairs (xs.map pairD)).map _ = _; rw [ih]; rfl
theorem sorted_strs {h : Hs} {n : Nat} {xs : List Str} (e : itemsAt h n = some (xs.map D.str)) (hl : xs.length < 64) : sortedN [.loc n] h = some (.loc h.length, h ++ [.lst ((sortS xs).map D.str)]) := by
  have e' : D.atItems h (.loc n) = some (xs.map D.str) := e
  unfold sortedN
  simp only [e', asStrs_map]
  cases xs with
  | nil => simp [sortS, sortI, asInts]
  | cons x xs => simp only [List.map_cons, asInts]; rw [if_pos hl]
theorem sorted_ints {h : Hs} {n : Nat} {xs : List Int} (e : itemsAt h n = some (xs.map D.int)) : sortedN [.loc n] h = some (.loc h.length, h ++ [.lst ((sortI xs).map D.int)]) := by
  have e' : D.atItems h (.loc n) = some (xs.map D.int) := e
  unfold sortedN
  simp only [e', asInts_map]
theorem sorted_pairs {h : Hs} {n : Nat} {xs : List (Int × Int)} (e : itemsAt h n = some (xs.map pairD)) : sortedN [.loc n] h = some (.loc h.length, h ++ [.lst ((sortP xs).map pairD)]) := by
  have e' : D.atItems h (.loc n) = some (xs.map pairD) := e
  unfold sortedN
  simp only [e', asPairs_map]
  cases xs with
  | nil => simp [sortP, sortI, asInts]
  | cons x xs => simp only [List.map_cons, asInts, asStrs, pairD]
theorem sortS_mem {xs : List Str} {x : Str} : x ∈ sortS xs ↔ x ∈ xs := (List.mergeSort_perm xs leS).mem_iff
theorem sortS_len (xs : List Str) : (sortS xs).length = xs.length := (List.mergeSort_perm xs leS).length_eq
theorem wsort_strs {h : Hs} {n : Nat} {xs : List Str} {Q : QE} (e : itemsAt h n = some (xs.map D.str)) (hl : xs.length < 64) (q : ∀ h', Fm [] h h' → Ls h' h.length ((sortS xs).map D.str) → Q (.loc h.length) h') : wO (sortedN [.loc n] h) Q := by
  rw [sorted_strs e hl, wO_some]
  exact q _ ((Fm.refl _ _).app _) (Ls.new _ _)
theorem wsort_ints {h : Hs} {n : Nat} {xs : List Int} {Q : QE} (e : itemsAt h n = some (xs.map D.int)) (q : ∀ h', Fm [] h h' → Ls h' h.length ((sortI xs).map D.int) → Q (.loc h.length) h') : wO (sortedN [.loc n] h) Q := by
  rw [sorted_ints e, wO_some]
  exact q _ ((Fm.refl _ _).app _) (Ls.new _ _)
theorem wsort_pairs {h : Hs} {n : Nat} {xs : List (Int × Int)} {Q : QE} (e : itemsAt h n = some (xs.map pairD)) (q : ∀ h', Fm [] h h' → Ls h' h.length ((sortP xs).map pairD) → Q (.loc h.length) h') : wO (sortedN [.loc n] h) Q := by
  rw [sorted_pairs e, wO_some]
  exact q _ ((Fm.refl _ _).app _) (Ls.new _ _)
/-! ### comprehensions by invariants -/
/-- what is gathered so far stands at n0; I speaks of the heap but not of n0 -/
theorem wLc_inv {gd : Gd} {g : GM} {mt : BM} {me : EM} {ρ0 : Rho} {n0 : Nat} {xs : List D} {h : Hs} {Q : Hs → Prop} (I : Nat → List D → Hs → Prop) (hn : h[n0]? = some (.lst [])) (hs : xs.length < sizeLine) (h0 : I 0 [] h)
    (gdk : ∀ i acc h, I i acc h → h[n0]? = some (.lst acc) → gOk gd h)
    (step : ∀ (i : Nat) (x : D) (acc : List D) (h : Hs), xs[i]? = some x → I i acc h → h[n0]? = some (.lst acc) → acc.length ≤ i → wG g x ρ0 h (fun ρ1 h1 => wB mt ρ1 h1 (fun b h2 => if b = true then wE me ρ1 h2 (fun y h3 => h3[n0]? = some (.lst acc) ∧ I (i + 1) (acc ++ [y]) (h3.set n0 (.lst (acc ++ [y])))) else h2[n0]? = some (.lst acc) ∧ I (i + 1) acc h2)))
    (fin : ∀ acc h, I xs.length acc h → h[n0]? = some (.lst acc) → Q h) : wLc gd g mt me ρ0 n0 xs h Q := by
  have : ∀ (n i : Nat) (acc : List D) (h : Hs), n + i = xs.length → acc.length ≤ i → h[n0]? = some (.lst acc) → I i acc h → wLc gd g mt me ρ0 n0 (xs.drop i) h Q := by
    intro n
    induction n with
    | zero =>
      intro i acc h hn ha he hi
      have : i = xs.length := by omega
      subst this
      rw [List.drop_length]
      exact wLc_nil (gdk _ _ _ hi he) (fin acc h hi he)
    | succ n ih =>
      intro i acc h hn ha he hi
      have hl : i < xs.length := by omega
      rw [List.drop_eq_getElem_cons hl]
      refine wLc_cons (gdk _ _ _ hi he) ((step i xs[i] acc h (List.getElem?_eq_getElem hl) hi he ha).imp fun ρ1 h1 w => w.imp fun b h2 w => ?_)
      cases b
      · rw [if_neg (by decide)] at w ⊢
        exact ih (i + 1) acc h2 (by omega) (by omega) w.1 w.2
      · rw [if_pos rfl] at w ⊢
        refine w.imp fun y h3 w => ⟨acc, w.1, by omega, ?_⟩
        exact ih (i + 1) _ _ (by omega) (by simp; omega) (set_get w.1) w.2
  have := this xs.length 0 [] h (by omega) (Nat.le_refl _) hn h0
  rwa [List.drop_zero] at this
/-- a comprehension that only looks: the heap grows, its things are those of the items that pass -/
theorem wLc_pure {gd : Gd} {g : GM} {mt : BM} {me : EM} {ρ0 : Rho} {xs : List D} {h : Hs} {Q : Hs → Prop} (t : D → Bool) (f : D → D) (hs : xs.length < sizeLine) (hgd : ∀ h', Fm [] h h' → gOk gd h')
    (step : ∀ (x : D) (h1 : Hs), x ∈ xs → Fm [] h h1 → wG g x ρ0 h1 (fun ρ1 h2 => Fm [] h1 h2 ∧ wB mt ρ1 h2 (fun b h3 => b = t x ∧ Fm [] h2 h3 ∧ (b = true → wE me ρ1 h3 (fun y h4 => y = f x ∧ Fm [] h3 h4)))))
    (fin : ∀ h', Fm [] h h' → h'[h.length]? = some (.lst ((xs.filter t).map f)) → Q h') : wLc gd g mt me ρ0 h.length xs (h ++ [.lst []]) Q := by
  refine wLc_inv (fun i acc h1 => Fm [] h h1 ∧ acc = ((xs.take i).filter t).map f) (app_new h _) hs ⟨(Fm.refl _ _).app _, by simp⟩ (fun i acc h1 hi _ => hgd _ hi.1) (fun i x acc h1 hx ⟨hi, ha⟩ he hl => ?_) (fun acc h1 ⟨hi, ha⟩ he => ?_)
  · refine (step x h1 (List.mem_of_getElem? hx) hi).imp fun ρ1 h2 ⟨F2, w⟩ => w.imp fun b h3 ⟨hb, F3, w⟩ => ?_
    have hlt : i < xs.length := (List.getElem?_eq_some_iff.mp hx).1
    have ht : xs.take (i + 1) = xs.take i ++ [x] := by rw [List.take_add_one, hx]; rfl
    cases b
    · rw [if_neg (by decide)]
      refine ⟨F3.get0 (F2.get0 he), (hi.trans F2).trans F3, ?_⟩
      rw [ht, List.filter_append, List.map_append, ← ha]
      simp [← hb]
    · rw [if_pos rfl]
      refine (w rfl).imp fun y h4 ⟨ey, F4⟩ => ⟨F4.get0 (F3.get0 (F2.get0 he)), ((((hi.trans F2).trans F3).trans F4).set _ (.inr (Nat.le_refl _))), ?_⟩
      rw [ht, List.filter_append, List.map_append, ← ha, ey]
      simp [← hb]
  · rw [List.take_length] at ha
    subst ha
    exact fin h1 hi he
end MP

/-! text DF_k21 -/
set_option Elab.async false
set_option linter.all false
set_option maxRecDepth 100000
set_option maxHeartbeats 0
namespace MP
open PySem PySem.Spec PyProof.Rows
open L2 hiding St
def c_MOST_MOMENTS : D := (.int 600)
def c_NOTHING : D := (.str "-")
def c_SPOIL : D := (.str "!")
def c_WORDS : D := (.tup [(.str "struck"), (.str "came"), (.str "queued"), (.str "changed"), (.str "took"), (.str "finished"), (.str "spoiled"), (.str "done"), (.str "late")])
noncomputable def S_law_taken : SM :=
  (sSeq (sIf (bBool (mOp2 gtO (mOp2 ixO (mVar 0) (mC (.int 3))) (mC (.int 0))))
    (sSeq (sSet (mOp2 modD (mCallN intN (aCons (mOp2 ixO (mVar 0) (mC (.int 3))) aNil)) (mVar 1)) (gVar 3))
    (sSeq (sSet (mOp2 fdivD (mOp2 ixO (mVar 0) (mC (.int 3))) (mVar 1)) (gSubM (mVar 0) (mC (.int 3))))
    (sSeq (sRet (mVar 3))
    sNext)))
    sNext)
  (sSeq (sSet (mOp2 addD (mOp2 ixO (mVar 0) (mC (.int 1))) (mC (.int 1))) (gSubM (mVar 0) (mC (.int 1))))
  (sSeq (sIf (bBool (mOp2 gtO (mOp2 ixO (mVar 0) (mC (.int 1))) (mCallN lenN (aCons (mOp2 ixO (mVar 0) (mC (.int 0))) aNil))))
    (sSeq (sSet (mOp2 modD (mCallN intN (aCons (mOp2 addD (mOp2 mulD (mOp2 ixO (mVar 0) (mC (.int 2))) (mC (.int 48271))) (mC (.int 11))) aNil)) (mC (.int 2147483647))) (gSubM (mVar 0) (mC (.int 2))))
    (sSeq (sRet (mOp2 modD (mCallN intN (aCons (mOp2 fdivD (mOp2 ixO (mVar 0) (mC (.int 2))) (mC (.int 7))) aNil)) (mVar 1)))
    sNext))
    sNext)
  (sSeq (sSet (mOp2 ixO (mOp2 ixO (mVar 0) (mC (.int 0))) (mOp2 subD (mOp2 ixO (mVar 0) (mC (.int 1))) (mC (.int 1)))) (gVar 2))
  (sSeq (sSet (mOp2 modD (mCallN intN (aCons (mOp2 addD (mOp2 addD (mOp2 mulD (mOp2 ixO (mVar 0) (mC (.int 2))) (mC (.int 48271))) (mVar 2)) (mC (.int 11))) aNil)) (mC (.int 2147483647))) (gSubM (mVar 0) (mC (.int 2))))
  (sSeq (sIf (bBool (mOp2 geO (mVar 2) (mOp2 powD (mC (.int 10)) (mC (.int 18)))))
    (sSeq (sSet (mOp2 fdivD (mVar 2) (mVar 1)) (gSubM (mVar 0) (mC (.int 3))))
    (sSeq (sRet (mOp2 modD (mCallN intN (aCons (mVar 2) aNil)) (mVar 1)))
    sNext))
    sNext)
  (sSeq (sRet (mOp2 modD (mCallN intN (aCons (mOp2 addD (mOp2 mulD (mOp2 modD (mCallN intN (aCons (mVar 2) aNil)) (mC (.int 1000003))) (mC (.int 31))) (mOp2 fdivD (mOp2 ixO (mVar 0) (mC (.int 2))) (mC (.int 11)))) aNil)) (mVar 1)))
  sNext)))))))
noncomputable def F_law_taken : ON := runF S_law_taken 4
noncomputable def S_law_names : SM :=
  (sSeq (sSet (mC (.str "abcdefghijklmnopqrstuvwxyz")) (gVar 2))
  (sSeq (sPar [7, 8] (aCons (mCallF 2 F_law_taken (aCons (mVar 0) (aCons (mC (.int 26)) aNil))) (aCons (mLst aNil) aNil)))
  (sSeq (sSet (mOp2 mulD (mOp2 ixO (mVar 2) (mCallF 2 F_law_taken (aCons (mVar 0) (aCons (mC (.int 26)) aNil)))) (mCallF 2 F_law_taken (aCons (mVar 0) (aCons (mC (.int 4)) aNil)))) (gVar 3))
  (sSeq (sSet (mOp2 mulD (mOp2 ixO (mVar 2) (mCallF 2 F_law_taken (aCons (mVar 0) (aCons (mC (.int 26)) aNil)))) (mCallF 2 F_law_taken (aCons (mVar 0) (aCons (mC (.int 4)) aNil)))) (gVar 4))
  (sSeq (sSet (mCallF 2 F_law_taken (aCons (mVar 0) (aCons (mC (.int 2)) aNil))) (gVar 5))
  (sSeq (sFor (iRange1 (mVar 1)) (gVar 6)
    (sSeq (sSet (mOp2 ixO (mVar 2) (mOp2 modD (mCallN intN (aCons (mOp2 addD (mVar 7) (mOp2 mulD (mC (.int 7)) (mVar 6))) aNil)) (mC (.int 26)))) (gVar 9))
    (sSeq (sExpr (mMeth isLst appendM (mVar 8) (aCons (mIf (bBool (mOp2 eqO (mVar 5) (mC (.int 0)))) (mOp2 addD (mOp2 addD (mVar 3) (mVar 9)) (mVar 4)) (mOp2 addD (mVar 9) (mOp2 mulD (mOp2 ixO (mVar 2) (mCallF 2 F_law_taken (aCons (mVar 0) (aCons (mC (.int 26)) aNil)))) (mCallF 2 F_law_taken (aCons (mVar 0) (aCons (mC (.int 8)) aNil)))))) aNil)))
    sNext)))
  (sSeq (sRet (mVar 8))
  sNext)))))))
noncomputable def F_law_names : ON := runF S_law_names 10
noncomputable def S_law_pick : SM :=
  (sSeq (sRet (mOp2 ixO (mVar 1) (mCallF 2 F_law_taken (aCons (mVar 0) (aCons (mCallN lenN (aCons (mVar 1) aNil)) aNil)))))
  sNext)
noncomputable def F_law_pick : ON := runF S_law_pick 2
noncomputable def S_law_station : SM :=
  (sSeq (sSet (mCallF 2 F_law_pick (aCons (mVar 0) (aCons (mLst (aCons (mC (.int 0)) (aCons (mC (.int 0)) (aCons (mC (.int 0)) (aCons (mC (.int 4)) (aCons (mC (.int 5)) (aCons (mC (.int 6)) aNil))))))) aNil))) (gVar 2))
  (sSeq (sRet (mTup (aCons (mVar 1) (aCons (mCallF 2 F_law_pick (aCons (mVar 0) (aCons (mLst (aCons (mC (.int 1)) (aCons (mC (.int 1)) (aCons (mC (.int 2)) (aCons (mC (.int 3)) (aCons (mC (.int 4)) aNil)))))) aNil))) (aCons (mVar 2) (aCons (mIf (bBool (mOp2 gtO (mVar 2) (mC (.int 0)))) (mCallF 2 F_law_pick (aCons (mVar 0) (aCons (mLst (aCons (mC (.int 0)) (aCons (mC (.int 1)) (aCons (mC (.int 2)) (aCons (mC (.int 3)) aNil))))) aNil))) (mC (.int 0))) (aCons (mOp2 addD (mC (.int 1)) (mCallF 2 F_law_taken (aCons (mVar 0) (aCons (mC (.int 4)) aNil)))) aNil)))))))
  sNext))
noncomputable def F_law_station : ON := runF S_law_station 3
noncomputable def S_law_steps : SM :=
  (sSeq (sSet (mLst aNil) (gVar 3))
  (sSeq (sFor (iRange1 (mOp2 addD (mC (.int 1)) (mCallF 2 F_law_taken (aCons (mVar 0) (aCons (mVar 2) aNil))))) (gVar 4)
    (sSeq (sSet (mIf (bBool (mOp2 gtO (mCallF 2 F_law_taken (aCons (mVar 0) (aCons (mC (.int 3)) aNil))) (mC (.int 0)))) (mCallF 2 F_law_taken (aCons (mVar 0) (aCons (mOp2 addD (mVar 4) (mC (.int 1))) aNil))) (mC .non)) (gVar 5))
    (sSeq (sExpr (mMeth isLst appendM (mVar 3) (aCons (mTup (aCons (mCallF 2 F_law_pick (aCons (mVar 0) (aCons (mVar 1) aNil))) (aCons (mOp2 addD (mC (.int 1)) (mCallF 2 F_law_taken (aCons (mVar 0) (aCons (mCallF 2 F_law_pick (aCons (mVar 0) (aCons (mLst (aCons (mC (.int 2)) (aCons (mC (.int 2)) (aCons (mC (.int 4)) aNil)))) aNil))) aNil)))) (aCons (mVar 5) aNil)))) aNil)))
    sNext)))
  (sSeq (sRet (mCallN tupleN (aCons (mVar 3) aNil)))
  sNext)))
noncomputable def F_law_steps : ON := runF S_law_steps 6
noncomputable def S_law_setups : SM :=
  (sSeq (sSet (mLst aNil) (gVar 3))
  (sSeq (sFor (iSeq (mCallN sortedN (aCons (mVar 1) aNil))) (gVar 4)
    (sSeq (sFor (iSeq (mCallN sortedN (aCons (mVar 2) aNil))) (gVar 5)
      (sSeq (sFor (iSeq (mCallN sortedN (aCons (mVar 2) aNil))) (gVar 6)
        (sSeq (sIf (bAnd (bBool (mOp2 neO (mVar 5) (mVar 6))) (bBool (mOp2 eqO (mCallF 2 F_law_taken (aCons (mVar 0) (aCons (mC (.int 4)) aNil))) (mC (.int 0)))))
          (sSeq (sExpr (mMeth isLst appendM (mVar 3) (aCons (mTup (aCons (mVar 4) (aCons (mVar 5) (aCons (mVar 6) (aCons (mOp2 addD (mC (.int 1)) (mCallF 2 F_law_taken (aCons (mVar 0) (aCons (mC (.int 3)) aNil)))) aNil))))) aNil)))
          sNext)
          sNext)
        sNext))
      sNext))
    sNext))
  (sSeq (sRet (mCallN tupleN (aCons (mSl (mVar 3) pNo (pInt (mC (.int 20)))) aNil)))
  sNext)))
noncomputable def F_law_setups : ON := runF S_law_setups 7
noncomputable def S_law_small : SM :=
  (sSeq (sSet (mCallF 2 F_law_names (aCons (mVar 0) (aCons (mCallF 2 F_law_pick (aCons (mVar 0) (aCons (mLst (aCons (mC (.int 1)) (aCons (mC (.int 2)) (aCons (mC (.int 2)) (aCons (mC (.int 2)) (aCons (mC (.int 3)) aNil)))))) aNil))) aNil))) (gVar 1))
  (sSeq (sSet (mCallF 2 F_law_names (aCons (mVar 0) (aCons (mCallF 2 F_law_pick (aCons (mVar 0) (aCons (mLst (aCons (mC (.int 1)) (aCons (mC (.int 1)) (aCons (mC (.int 2)) (aCons (mC (.int 2)) aNil))))) aNil))) aNil))) (gVar 2))
  (sSeq (sSet (mCallF 2 F_law_pick (aCons (mVar 0) (aCons (mLst (aCons (mC (.int 2)) (aCons (mC (.int 3)) (aCons (mC (.int 3)) (aCons (mC (.int 4)) (aCons (mC (.int 5)) aNil)))))) aNil))) (gVar 3))
  (sSeq (sSet (mCallN tupleN (aCons (mLc (iSeq (mLc (iSeq (mVar 1)) (gVar 6) bYes (mCallF 2 F_law_station (aCons (mVar 0) (aCons (mVar 6) aNil))) [6])) (gVar 11) bYes (mTup (aCons (mOp2 ixO (mVar 11) (mC (.int 0))) (aCons (mOp2 ixO (mVar 11) (mC (.int 1))) (aCons (mOp2 ixO (mVar 11) (mC (.int 2))) (aCons (mCallN min2N (aCons (mOp2 ixO (mVar 11) (mC (.int 3))) (aCons (mC (.int 2)) aNil))) (aCons (mCallN min2N (aCons (mOp2 ixO (mVar 11) (mC (.int 4))) (aCons (mC (.int 2)) aNil))) aNil)))))) [11]) aNil)) (gVar 4))
  (sSeq (sSet (mLst aNil) (gVar 5))
  (sSeq (sFor (iSeq (mVar 2)) (gVar 6)
    (sSeq (sExpr (mMeth isLst appendM (mVar 5) (aCons (mTup (aCons (mVar 6) (aCons (mCallN tupleN (aCons (mLc (iSeq (mCallF 3 F_law_steps (aCons (mVar 0) (aCons (mVar 1) (aCons (mC (.int 3)) aNil))))) (gVar 11) bYes (mTup (aCons (mOp2 ixO (mVar 11) (mC (.int 0))) (aCons (mCallN min2N (aCons (mOp2 ixO (mVar 11) (mC (.int 1))) (aCons (mC (.int 2)) aNil))) (aCons (mOp2 ixO (mVar 11) (mC (.int 2))) aNil)))) [11]) aNil)) aNil))) aNil)))
    sNext))
  (sSeq (sSet (mCallF 2 F_law_pick (aCons (mVar 0) (aCons (mLst (aCons (mC (.int 1)) (aCons (mC (.int 1)) (aCons (mC (.int 1)) (aCons (mC (.int 2)) (aCons (mC (.int 2)) (aCons (mC (.int 0)) (aCons (mC (.int 3)) (aCons (mC (.int 5)) aNil))))))))) aNil))) (gVar 7))
  (sSeq (sSet (mIf (bBool (mOp2 ltO (mVar 7) (mC (.int 3)))) (mCallF 2 F_law_pick (aCons (mVar 0) (aCons (mLst (aCons (mC (.int 3)) (aCons (mC (.int 5)) (aCons (mC (.int 7)) (aCons (mC (.int 9)) (aCons (mC (.int 12)) aNil)))))) aNil))) (mC (.int 3))) (gVar 8))
  (sSeq (sSet (mCallN tupleN (aCons (mLc (iRange1 (mVar 7)) (gVar 12) bYes (mTup (aCons (mCallF 2 F_law_taken (aCons (mVar 0) (aCons (mVar 3) aNil))) (aCons (mCallF 2 F_law_pick (aCons (mVar 0) (aCons (mVar 2) aNil))) (aCons (mOp2 addD (mC (.int 1)) (mCallF 2 F_law_taken (aCons (mVar 0) (aCons (mVar 8) aNil)))) aNil)))) [12]) aNil)) (gVar 9))
  (sSeq (sSet (mTup (aCons (mCallF 2 F_law_pick (aCons (mVar 0) (aCons (mLst (aCons (mC (.int 0)) (aCons (mC (.int 1)) (aCons (mC (.int 1)) (aCons (mC (.int 1)) aNil))))) aNil))) (aCons (mCallF 2 F_law_pick (aCons (mVar 0) (aCons (mLst (aCons (mC (.int 3)) (aCons (mC (.int 4)) (aCons (mC (.int 6)) (aCons (mC (.int 8)) aNil))))) aNil))) aNil))) (gVar 10))
  (sSeq (sRet (mTup (aCons (mVar 4) (aCons (mCallN tupleN (aCons (mVar 5) aNil)) (aCons (mVar 3) (aCons (mVar 9) (aCons (mSl (mCallF 3 F_law_setups (aCons (mVar 0) (aCons (mVar 1) (aCons (mVar 2) aNil)))) pNo (pInt (mC (.int 2)))) (aCons (mVar 10) (aCons (mCallF 2 F_law_pick (aCons (mVar 0) (aCons (mLst (aCons (mC (.int 0)) (aCons (mC (.int 0)) (aCons (mC (.int 1)) aNil)))) aNil))) aNil)))))))))
  sNext)))))))))))
noncomputable def F_law_small : ON := runF S_law_small 13
noncomputable def S_law_start : SM :=
  (sSeq (sRet (mTup (aCons (mC (.int 0)) (aCons (mTup aNil) (aCons (mCallN tupleN (aCons (mLc (iSeq (mOp2 ixO (mVar 0) (mC (.int 0)))) (gVar 1) bYes (mTup (aCons (mC (.int 0)) (aCons (mC (.int 0)) (aCons (mC (.int 0)) (aCons (mC (.str "")) (aCons (mC .non) aNil)))))) [1]) aNil)) (aCons (mCallN tupleN (aCons (mLc (iSeq (mOp2 ixO (mVar 0) (mC (.int 0)))) (gVar 1) bYes (mTup aNil) [1]) aNil)) (aCons (mTup aNil) aNil)))))))
  sNext)
noncomputable def F_law_start : ON := runF S_law_start 2
noncomputable def S_law_spot : SM :=
  (sSeq (sRet (mOp2 ixO (mLc (iRange1 (mCallN lenN (aCons (mOp2 ixO (mVar 0) (mC (.int 0))) aNil))) (gVar 2) (bBool (mOp2 eqO (mOp2 ixO (mOp2 ixO (mOp2 ixO (mVar 0) (mC (.int 0))) (mVar 2)) (mC (.int 0))) (mVar 1))) (mVar 2) [2]) (mC (.int 0))))
  sNext)
noncomputable def F_law_spot : ON := runF S_law_spot 3
noncomputable def S_law_route : SM :=
  (sSeq (sRet (mOp2 ixO (mLc (iSeq (mOp2 ixO (mVar 0) (mC (.int 1)))) (gVar 2) (bBool (mOp2 eqO (mOp2 ixO (mVar 2) (mC (.int 0))) (mVar 1))) (mOp2 ixO (mVar 2) (mC (.int 1))) [2]) (mC (.int 0))))
  sNext)
noncomputable def F_law_route : ON := runF S_law_route 3
noncomputable def S_law_way : SM :=
  (sSeq (sRet (mCallF 2 F_law_route (aCons (mVar 0) (aCons (mOp2 ixO (mOp2 ixO (mOp2 ixO (mVar 0) (mC (.int 3))) (mOp2 ixO (mVar 1) (mC (.int 0)))) (mC (.int 1))) aNil))))
  sNext)
noncomputable def F_law_way : ON := runF S_law_way 2
noncomputable def S_law_goal : SM :=
  (sSeq (sRet (mCallF 2 F_law_spot (aCons (mVar 0) (aCons (mOp2 ixO (mOp2 ixO (mCallF 2 F_law_way (aCons (mVar 0) (aCons (mVar 1) aNil))) (mOp2 ixO (mVar 1) (mC (.int 1)))) (mC (.int 0))) aNil))))
  sNext)
noncomputable def F_law_goal : ON := runF S_law_goal 2
noncomputable def S_law_setup : SM :=
  (sSeq (sSet (mLc (iSeq (mOp2 ixO (mVar 0) (mC (.int 4)))) (gVar 5) (bBool (mOp2 eqO (mSl (mVar 5) pNo (pInt (mC (.int 3)))) (mTup (aCons (mVar 1) (aCons (mVar 2) (aCons (mVar 3) aNil)))))) (mOp2 ixO (mVar 5) (mC (.int 3))) [5]) (gVar 4))
  (sSeq (sRet (mIf (bBool (mOp2 neO (mVar 4) (mLst aNil))) (mOp2 ixO (mVar 4) (mC (.int 0))) (mC (.int 0))))
  sNext))
noncomputable def F_law_setup : ON := runF S_law_setup 6
noncomputable def S_law_begin : SM :=
  (sSeq (sSet (mOp2 ixO (mOp2 ixO (mVar 0) (mC (.int 0))) (mVar 1)) (gTupM 5 (gsCons (gVar 6) (gsCons (gVar 7) (gsCons (gVar 8) (gsCons (gVar 9) (gsCons (gVar 10) gsNil)))))))
  (sSeq (sPar [11, 12] (aCons (mOp2 ixO (mOp2 ixO (mOp2 ixO (mVar 0) (mC (.int 3))) (mOp2 ixO (mVar 3) (mC (.int 0)))) (mC (.int 1))) (aCons (mOp2 ixO (mOp2 ixO (mCallF 2 F_law_way (aCons (mVar 0) (aCons (mVar 3) aNil))) (mOp2 ixO (mVar 3) (mC (.int 1)))) (mC (.int 1))) aNil)))
  (sSeq (sSet (mIf (bBool (mOp2 neO (mOp2 ixO (mVar 2) (mC (.int 3))) (mC (.str "")))) (mCallF 4 F_law_setup (aCons (mVar 0) (aCons (mVar 6) (aCons (mOp2 ixO (mVar 2) (mC (.int 3))) (aCons (mVar 11) aNil))))) (mC (.int 0))) (gVar 5))
  (sSeq (sIf (bAnd (bBool (mOp2 gtO (mVar 8) (mC (.int 0)))) (bBool (mOp2 gtO (mOp2 addD (mOp2 ixO (mVar 2) (mC (.int 2))) (mVar 12)) (mVar 8))))
    (sSeq (sSet (mOp2 addD (mVar 5) (mVar 9)) (gVar 5))
    (sSeq (sSet (mC (.int 0)) (gSubM (mVar 2) (mC (.int 2))))
    (sSeq (sExpr (mMeth isLst appendM (mVar 4) (aCons (mTup (aCons (mC (.str "changed")) (aCons (mVar 3) (aCons (mVar 1) (aCons (mVar 9) aNil))))) aNil)))
    sNext)))
    sNext)
  (sSeq (sSet (mVar 5) (gSubM (mVar 2) (mC (.int 1))))
  (sSeq (sSet (mVar 11) (gSubM (mVar 2) (mC (.int 3))))
  (sSeq (sSet (mTup (aCons (mVar 3) (aCons (mVar 12) aNil))) (gSubM (mVar 2) (mC (.int 4))))
  (sSeq (sExpr (mMeth isLst appendM (mVar 4) (aCons (mTup (aCons (mC (.str "took")) (aCons (mVar 3) (aCons (mVar 1) (aCons (mVar 5) aNil))))) aNil)))
  sNext))))))))
noncomputable def F_law_begin : ON := runF S_law_begin 13
noncomputable def S_law_work : SM :=
  (sSeq (sIf (bBool (mOp2 gtO (mOp2 ixO (mVar 2) (mC (.int 0))) (mC (.int 0))))
    (sSeq (sSet (mOp2 subD (mOp2 ixO (mVar 2) (mC (.int 0))) (mC (.int 1))) (gSubM (mVar 2) (mC (.int 0))))
    sNext)
    (sSeq (sIf (bBool (mOp2 gtO (mOp2 ixO (mVar 2) (mC (.int 1))) (mC (.int 0))))
      (sSeq (sSet (mOp2 subD (mOp2 ixO (mVar 2) (mC (.int 1))) (mC (.int 1))) (gSubM (mVar 2) (mC (.int 1))))
      sNext)
      (sSeq (sIf (bAnd (bBool (mOp2 isNotO (mOp2 ixO (mVar 2) (mC (.int 4))) (mC .non))) (bBool (mOp2 gtO (mOp2 ixO (mOp2 ixO (mVar 2) (mC (.int 4))) (mC (.int 1))) (mC (.int 0)))))
        (sSeq (sSet (mOp2 ixO (mVar 2) (mC (.int 4))) (gTupM 2 (gsCons (gVar 5) (gsCons (gVar 6) gsNil))))
        (sSeq (sSet (mOp2 addD (mOp2 ixO (mVar 2) (mC (.int 2))) (mCallN intN (aCons (mOp2 gtO (mOp2 ixO (mOp2 ixO (mOp2 ixO (mVar 0) (mC (.int 0))) (mVar 1)) (mC (.int 2))) (mC (.int 0))) aNil))) (gSubM (mVar 2) (mC (.int 2))))
        (sSeq (sSet (mTup (aCons (mVar 5) (aCons (mOp2 subD (mVar 6) (mC (.int 1))) aNil))) (gSubM (mVar 2) (mC (.int 4))))
        (sSeq (sIf (bBool (mOp2 eqO (mVar 6) (mC (.int 1))))
          (sSeq (sSet (mOp2 eqO (mVar 3) (mOp2 addD (mOp2 ixO (mOp2 ixO (mOp2 ixO (mVar 0) (mC (.int 0))) (mVar 1)) (mC (.int 0))) (mC (.str "!")))) (gVar 7))
          (sSeq (sExpr (mMeth isLst appendM (mVar 4) (aCons (mTup (aCons (mIf (bTru (mVar 7)) (mC (.str "spoiled")) (mC (.str "finished"))) (aCons (mVar 5) (aCons (mVar 1) (aCons (mOp2 ixO (mVar 5) (mC (.int 1))) aNil))))) aNil)))
          (sSeq (sSet (mIf (bTru (mVar 7)) (mOp2 ixO (mOp2 ixO (mCallF 2 F_law_way (aCons (mVar 0) (aCons (mVar 5) aNil))) (mOp2 ixO (mVar 5) (mC (.int 1)))) (mC (.int 2))) (mOp2 addD (mOp2 ixO (mVar 5) (mC (.int 1))) (mC (.int 1)))) (gVar 8))
          (sSeq (sSet (mTup (aCons (mOp2 addD (mTup (aCons (mOp2 ixO (mVar 5) (mC (.int 0))) (aCons (mVar 8) (aCons (mOp2 ixO (mVar 5) (mC (.int 2))) (aCons (mOp2 addD (mOp2 ixO (mVar 5) (mC (.int 3))) (mCallN intN (aCons (mVar 7) aNil))) aNil))))) (mSl (mVar 5) (pInt (mC (.int 4))) pNo)) (aCons (mC (.int 0)) aNil))) (gSubM (mVar 2) (mC (.int 4))))
          sNext))))
          sNext)
        sNext))))
        sNext)
      sNext))
    sNext))
  sNext)
noncomputable def F_law_work : ON := runF S_law_work 9
noncomputable def S_law_older : SM :=
  (sSeq (sRet (mOp2 addD (mOp2 addD (mSl (mVar 0) pNo (pInt (mC (.int 2)))) (mTup (aCons (mOp2 addD (mOp2 ixO (mVar 0) (mC (.int 2))) (mC (.int 1))) aNil))) (mSl (mVar 0) (pInt (mC (.int 3))) pNo)))
  sNext)
noncomputable def F_law_older : ON := runF S_law_older 1
noncomputable def S_law_closed : SM :=
  (sSeq (sSet (mLst aNil) (gVar 7))
  (sSeq (sFor (iSeq (mVar 3)) (gVar 8)
    (sSeq (sExpr (mMeth isLst appendM (mVar 7) (aCons (mTup (aCons (mOp2 ixO (mVar 8) (mC (.int 0))) (aCons (mOp2 ixO (mVar 8) (mC (.int 1))) (aCons (mOp2 ixO (mVar 8) (mC (.int 2))) (aCons (mOp2 ixO (mVar 8) (mC (.int 3))) (aCons (mIf (bBool (mOp2 isO (mOp2 ixO (mVar 8) (mC (.int 4))) (mC .non))) (mC .non) (mTup (aCons (mCallF 1 F_law_older (aCons (mOp2 ixO (mOp2 ixO (mVar 8) (mC (.int 4))) (mC (.int 0))) aNil)) (aCons (mOp2 ixO (mOp2 ixO (mVar 8) (mC (.int 4))) (mC (.int 1))) aNil)))) aNil)))))) aNil)))
    sNext))
  (sSeq (sSet (mOp2 addD (mIf (bTru (mVar 6)) (mLst (aCons (mC (.int 1)) aNil)) (mLst aNil)) (mLc (iSeq (mVar 2)) (gVar 12) bYes (mOp2 addD (mVar 12) (mC (.int 1))) [12])) (gVar 9))
  (sSeq (sSet (mCallN tupleN (aCons (mLc (iSeq (mVar 4)) (gVar 13) bYes (mCallN tupleN (aCons (mLc (iSeq (mVar 13)) (gVar 14) bYes (mCallF 1 F_law_older (aCons (mVar 14) aNil)) [14]) aNil)) [13]) aNil)) (gVar 10))
  (sSeq (sSet (mCallN tupleN (aCons (mLc (iSeq (mVar 9)) (gVar 12) (bBool (mOp2 ltO (mVar 12) (mOp2 ixO (mOp2 ixO (mVar 0) (mC (.int 5))) (mC (.int 1))))) (mVar 12) [12]) aNil)) (gVar 11))
  (sSeq (sRet (mTup (aCons (mOp2 modD (mCallN intN (aCons (mOp2 addD (mVar 1) (mC (.int 1))) aNil)) (mOp2 ixO (mVar 0) (mC (.int 2)))) (aCons (mVar 11) (aCons (mCallN tupleN (aCons (mVar 7) aNil)) (aCons (mVar 10) (aCons (mCallN tupleN (aCons (mLc (iSeq (mVar 5)) (gVar 14) bYes (mCallF 1 F_law_older (aCons (mVar 14) aNil)) [14]) aNil)) aNil)))))))
  sNext))))))
noncomputable def F_law_closed : ON := runF S_law_closed 15
noncomputable def S_law_moment : SM :=
  (sSeq (sSet (mVar 1) (gTupM 5 (gsCons (gVar 11) (gsCons (gVar 12) (gsCons (gVar 4) (gsCons (gVar 5) (gsCons (gVar 13) gsNil)))))))
  (sSeq (sSet (mLc (iSeq (mVar 4)) (gVar 17) bYes (mCallN listN (aCons (mVar 17) aNil)) [17]) (gVar 4))
  (sSeq (sSet (mLc (iSeq (mVar 5)) (gVar 18) bYes (mCallN listN (aCons (mVar 18) aNil)) [18]) (gVar 5))
  (sSeq (sPar [14, 15, 16] (aCons (mLst aNil) (aCons (mLc (iSeq (mOp2 ixO (mVar 0) (mC (.int 0)))) (gVar 19) bYes (mOp2 ixO (mVar 19) (mC (.int 0))) [19]) (aCons (mCallN listN (aCons (mVar 13) aNil)) aNil))))
  (sSeq (sIf (bBool (mOp2 inO (mVar 2) (mVar 15)))
    (sSeq (sSet (mOp2 ixO (mOp2 ixO (mOp2 ixO (mVar 0) (mC (.int 0))) (mMeth isLst indexM (mVar 15) (aCons (mVar 2) aNil))) (mC (.int 4))) (gSubM (mOp2 ixO (mVar 4) (mMeth isLst indexM (mVar 15) (aCons (mVar 2) aNil))) (mC (.int 0))))
    (sSeq (sExpr (mMeth isLst appendM (mVar 14) (aCons (mTup (aCons (mC (.str "struck")) (aCons (mC .non) (aCons (mMeth isLst indexM (mVar 15) (aCons (mVar 2) aNil)) (aCons (mOp2 ixO (mOp2 ixO (mOp2 ixO (mVar 0) (mC (.int 0))) (mMeth isLst indexM (mVar 15) (aCons (mVar 2) aNil))) (mC (.int 4))) aNil))))) aNil)))
    sNext))
    sNext)
  (sSeq (sSet (mLc (iRange1 (mCallN lenN (aCons (mOp2 ixO (mVar 0) (mC (.int 3))) aNil))) (gVar 7) (bBool (mOp2 eqO (mOp2 ixO (mOp2 ixO (mOp2 ixO (mVar 0) (mC (.int 3))) (mVar 7)) (mC (.int 0))) (mVar 11))) (mVar 7) [7]) (gVar 6))
  (sSeq (sFor (iRange1 (mCallN lenN (aCons (mVar 6) aNil))) (gVar 7)
    (sSeq (sExpr (mMeth isLst appendM (mVar 16) (aCons (mOp2 addD (mTup (aCons (mOp2 ixO (mVar 6) (mVar 7)) (aCons (mC (.int 0)) (aCons (mC (.int 0)) (aCons (mC (.int 0)) aNil))))) (mIf (bBool (mOp2 neO (mVar 3) (mTup aNil))) (mOp2 ixO (mVar 3) (mVar 7)) (mTup aNil))) aNil)))
    (sSeq (sExpr (mMeth isLst appendM (mVar 14) (aCons (mTup (aCons (mC (.str "came")) (aCons (mOp2 ixO (mVar 16) (mOp1 negO (mC (.int 1)))) (aCons (mC .non) (aCons (mOp2 ixO (mVar 6) (mVar 7)) aNil))))) aNil)))
    sNext)))
  (sSeq (sSet (mLst aNil) (gVar 8))
  (sSeq (sFor (iSeq (mVar 16)) (gVar 9)
    (sSeq (sSet (mCallF 2 F_law_goal (aCons (mVar 0) (aCons (mVar 9) aNil))) (gVar 10))
    (sSeq (sIf (bBool (mOp2 ltO (mCallN lenN (aCons (mOp2 ixO (mVar 5) (mVar 10)) aNil)) (mOp2 ixO (mOp2 ixO (mOp2 ixO (mVar 0) (mC (.int 0))) (mVar 10)) (mC (.int 1)))))
      (sSeq (sExpr (mMeth isLst appendM (mOp2 ixO (mVar 5) (mVar 10)) (aCons (mVar 9) aNil)))
      (sSeq (sExpr (mMeth isLst appendM (mVar 14) (aCons (mTup (aCons (mC (.str "queued")) (aCons (mVar 9) (aCons (mVar 10) (aCons (mCallN lenN (aCons (mOp2 ixO (mVar 5) (mVar 10)) aNil)) aNil))))) aNil)))
      sNext))
      (sSeq (sExpr (mMeth isLst appendM (mVar 8) (aCons (mVar 9) aNil)))
      sNext))
    sNext)))
  (sSeq (sFor (iRange1 (mCallN lenN (aCons (mVar 15) aNil))) (gVar 10)
    (sSeq (sIf (bAnd (bBool (mOp2 eqO (mOp2 ixO (mOp2 ixO (mVar 4) (mVar 10)) (mC (.int 0))) (mC (.int 0)))) (bAnd (bBool (mOp2 isO (mOp2 ixO (mOp2 ixO (mVar 4) (mVar 10)) (mC (.int 4))) (mC .non))) (bBool (mOp2 neO (mOp2 ixO (mVar 5) (mVar 10)) (mLst aNil)))))
      (sSeq (sExpr (mCallF 5 F_law_begin (aCons (mVar 0) (aCons (mVar 10) (aCons (mOp2 ixO (mVar 4) (mVar 10)) (aCons (mMeth isLst popM (mOp2 ixO (mVar 5) (mVar 10)) (aCons (mC (.int 0)) aNil)) (aCons (mVar 14) aNil)))))))
      sNext)
      sNext)
    sNext))
  (sSeq (sFor (iRange1 (mCallN lenN (aCons (mVar 15) aNil))) (gVar 10)
    (sSeq (sExpr (mCallF 5 F_law_work (aCons (mVar 0) (aCons (mVar 10) (aCons (mOp2 ixO (mVar 4) (mVar 10)) (aCons (mVar 2) (aCons (mVar 14) aNil)))))))
    sNext))
  (sSeq (sFor (iRange3 (mOp2 subD (mCallN lenN (aCons (mVar 15) aNil)) (mC (.int 1))) (mOp1 negO (mC (.int 1))) (mOp1 negO (mC (.int 1)))) (gVar 10)
    (sSeq (sIf (bAnd (bBool (mOp2 isNotO (mOp2 ixO (mOp2 ixO (mVar 4) (mVar 10)) (mC (.int 4))) (mC .non))) (bBool (mOp2 eqO (mOp2 ixO (mOp2 ixO (mOp2 ixO (mVar 4) (mVar 10)) (mC (.int 4))) (mC (.int 1))) (mC (.int 0)))))
      (sSeq (sSet (mOp2 ixO (mOp2 ixO (mOp2 ixO (mVar 4) (mVar 10)) (mC (.int 4))) (mC (.int 0))) (gVar 9))
      (sSeq (sIf (bBool (mOp2 eqO (mOp2 ixO (mVar 9) (mC (.int 1))) (mCallN lenN (aCons (mCallF 2 F_law_way (aCons (mVar 0) (aCons (mVar 9) aNil))) aNil))))
        (sSeq (sExpr (mMeth isLst appendM (mVar 14) (aCons (mTup (aCons (mC (.str "done")) (aCons (mVar 9) (aCons (mVar 10) (aCons (mOp2 addD (mOp2 ixO (mVar 9) (mC (.int 2))) (mC (.int 1))) aNil))))) aNil)))
        (sSeq (sSet (mC .non) (gSubM (mOp2 ixO (mVar 4) (mVar 10)) (mC (.int 4))))
        sNext))
        (sSeq (sIf (bOr (bBool (mOp2 eqO (mCallF 2 F_law_goal (aCons (mVar 0) (aCons (mVar 9) aNil))) (mVar 10))) (bBool (mOp2 ltO (mCallN lenN (aCons (mOp2 ixO (mVar 5) (mCallF 2 F_law_goal (aCons (mVar 0) (aCons (mVar 9) aNil)))) aNil)) (mOp2 ixO (mOp2 ixO (mOp2 ixO (mVar 0) (mC (.int 0))) (mCallF 2 F_law_goal (aCons (mVar 0) (aCons (mVar 9) aNil)))) (mC (.int 1))))))
          (sSeq (sExpr (mMeth isLst appendM (mOp2 ixO (mVar 5) (mCallF 2 F_law_goal (aCons (mVar 0) (aCons (mVar 9) aNil)))) (aCons (mVar 9) aNil)))
          (sSeq (sExpr (mMeth isLst appendM (mVar 14) (aCons (mTup (aCons (mC (.str "queued")) (aCons (mVar 9) (aCons (mCallF 2 F_law_goal (aCons (mVar 0) (aCons (mVar 9) aNil))) (aCons (mCallN lenN (aCons (mOp2 ixO (mVar 5) (mCallF 2 F_law_goal (aCons (mVar 0) (aCons (mVar 9) aNil)))) aNil)) aNil))))) aNil)))
          (sSeq (sSet (mC .non) (gSubM (mOp2 ixO (mVar 4) (mVar 10)) (mC (.int 4))))
          sNext)))
          sNext)
        sNext))
      sNext))
      sNext)
    sNext))
  (sSeq (sRet (mTup (aCons (mCallF 7 F_law_closed (aCons (mVar 0) (aCons (mVar 11) (aCons (mVar 12) (aCons (mVar 4) (aCons (mVar 5) (aCons (mVar 8) (aCons (mOp2 neO (mVar 2) (mC (.str "-"))) aNil)))))))) (aCons (mVar 14) aNil))))
  sNext)))))))))))))
noncomputable def F_law_moment : ON := runF S_law_moment 20
noncomputable def S_law_open : SM :=
  (sSeq (sSet (mLst (aCons (mC (.str "-")) aNil)) (gVar 2))
  (sSeq (sIf (bBool (mOp2 geO (mCallN lenN (aCons (mOp2 ixO (mVar 1) (mC (.int 1))) aNil)) (mOp2 ixO (mOp2 ixO (mVar 0) (mC (.int 5))) (mC (.int 0)))))
    (sSeq (sRet (mVar 2))
    sNext)
    sNext)
  (sSeq (sSet (mOp2 ixO (mCallF 4 F_law_moment (aCons (mVar 0) (aCons (mVar 1) (aCons (mC (.str "-")) (aCons (mTup aNil) aNil))))) (mC (.int 1))) (gVar 3))
  (sSeq (sFor (iRange1 (mCallN lenN (aCons (mOp2 ixO (mVar 0) (mC (.int 0))) aNil))) (gVar 4)
    (sSeq (sIf (bBool (mOp2 eqO (mOp2 ixO (mOp2 ixO (mOp2 ixO (mVar 1) (mC (.int 2))) (mVar 4)) (mC (.int 0))) (mC (.int 0))))
      (sSeq (sExpr (mMeth isLst appendM (mVar 2) (aCons (mOp2 ixO (mOp2 ixO (mOp2 ixO (mVar 0) (mC (.int 0))) (mVar 4)) (mC (.int 0))) aNil)))
      sNext)
      sNext)
    (sSeq (sFor (iSeq (mVar 3)) (gVar 5)
      (sSeq (sIf (bAnd (bBool (mOp2 eqO (mOp2 ixO (mVar 5) (mC (.int 0))) (mC (.str "finished")))) (bAnd (bBool (mOp2 eqO (mOp2 ixO (mVar 5) (mC (.int 2))) (mVar 4))) (bAnd (bBool (mOp2 ltO (mOp2 ixO (mOp2 ixO (mVar 5) (mC (.int 1))) (mC (.int 3))) (mOp2 ixO (mVar 0) (mC (.int 6))))) (bBool (mOp2 isNotO (mOp2 ixO (mOp2 ixO (mCallF 2 F_law_way (aCons (mVar 0) (aCons (mOp2 ixO (mVar 5) (mC (.int 1))) aNil))) (mOp2 ixO (mVar 5) (mC (.int 3)))) (mC (.int 2))) (mC .non))))))
        (sSeq (sExpr (mMeth isLst appendM (mVar 2) (aCons (mOp2 addD (mOp2 ixO (mOp2 ixO (mOp2 ixO (mVar 0) (mC (.int 0))) (mVar 4)) (mC (.int 0))) (mC (.str "!"))) aNil)))
        sNext)
        sNext)
      sNext))
    sNext)))
  (sSeq (sRet (mVar 2))
  sNext)))))
noncomputable def F_law_open : ON := runF S_law_open 6
noncomputable def S_law_walk : SM :=
  (sSeq (sPar [5, 6] (aCons (mLst (aCons (mCallF 1 F_law_start (aCons (mVar 1) aNil)) aNil)) (aCons (mLst aNil) aNil)))
  (sSeq (sSet (mCallF 2 F_law_pick (aCons (mVar 0) (aCons (mLst (aCons (mC (.int 1)) (aCons (mC (.int 2)) (aCons (mC (.int 2)) (aCons (mC (.int 6)) aNil))))) aNil))) (gVar 3))
  (sSeq (sFor (iRange1 (mVar 2)) (gVar 4)
    (sSeq (sSet (mCallF 2 F_law_open (aCons (mVar 1) (aCons (mOp2 ixO (mVar 5) (mOp1 negO (mC (.int 1)))) aNil))) (gVar 7))
    (sSeq (sSet (mIf (bBool (mOp2 eqO (mCallF 2 F_law_taken (aCons (mVar 0) (aCons (mVar 3) aNil))) (mC (.int 0)))) (mCallF 2 F_law_pick (aCons (mVar 0) (aCons (mVar 7) aNil))) (mC (.str "-"))) (gVar 8))
    (sSeq (sExpr (mMeth isLst appendM (mVar 6) (aCons (mVar 8) aNil)))
    (sSeq (sExpr (mMeth isLst appendM (mVar 5) (aCons (mOp2 ixO (mCallF 4 F_law_moment (aCons (mVar 1) (aCons (mOp2 ixO (mVar 5) (mOp1 negO (mC (.int 1)))) (aCons (mVar 8) (aCons (mTup aNil) aNil))))) (mC (.int 0))) aNil)))
    sNext)))))
  (sSeq (sRet (mTup (aCons (mCallN tupleN (aCons (mVar 6) aNil)) (aCons (mVar 5) aNil))))
  sNext))))
noncomputable def F_law_walk : ON := runF S_law_walk 9
noncomputable def S_law_inside : SM :=
  (sSeq (sSet (mCallN listN (aCons (mOp2 ixO (mVar 0) (mC (.int 4))) aNil)) (gVar 1))
  (sSeq (sFor (iSeq (mOp2 ixO (mVar 0) (mC (.int 3)))) (gVar 2)
    (sSeq (sExpr (mMeth isLst extendM (mVar 1) (aCons (mVar 2) aNil)))
    sNext))
  (sSeq (sRet (mOp2 addD (mVar 1) (mLc (iSeq (mOp2 ixO (mVar 0) (mC (.int 2)))) (gVar 3) (bBool (mOp2 isNotO (mOp2 ixO (mVar 3) (mC (.int 4))) (mC .non))) (mOp2 ixO (mOp2 ixO (mVar 3) (mC (.int 4))) (mC (.int 0))) [3])))
  sNext)))
noncomputable def F_law_inside : ON := runF S_law_inside 4
noncomputable def S_law_log : SM :=
  (sSeq (sSet (mTup (aCons (mCallF 1 F_law_start (aCons (mVar 0) aNil)) (aCons (mLst aNil) (aCons (mC (.int 1)) aNil)))) (gTupM 3 (gsCons (gVar 3) (gsCons (gVar 4) (gsCons (gVar 5) gsNil)))))
  (sSeq (sFor (iRange1 (mCallN lenN (aCons (mVar 1) aNil))) (gVar 2)
    (sSeq (sSet (mCallN lenN (aCons (mLc (iSeq (mOp2 ixO (mVar 0) (mC (.int 3)))) (gVar 13) (bBool (mOp2 eqO (mOp2 ixO (mVar 13) (mC (.int 0))) (mOp2 ixO (mVar 3) (mC (.int 0))))) (mVar 13) [13]) aNil)) (gVar 6))
    (sSeq (sSet (mCallF 4 F_law_moment (aCons (mVar 0) (aCons (mVar 3) (aCons (mOp2 ixO (mVar 1) (mVar 2)) (aCons (mCallN tupleN (aCons (mLc (iRange1 (mVar 6)) (gVar 14) bYes (mTup (aCons (mOp2 addD (mVar 5) (mVar 14)) aNil)) [14]) aNil)) aNil))))) (gTupM 2 (gsCons (gVar 3) (gsCons (gVar 8) gsNil))))
    (sSeq (sSet (mOp2 addD (mVar 5) (mVar 6)) (gVar 5))
    (sSeq (sFor (iSeq (mVar 8)) (gTupM 4 (gsCons (gVar 9) (gsCons (gVar 10) (gsCons (gVar 11) (gsCons (gVar 12) gsNil)))))
      (sSeq (sExpr (mMeth isLst appendM (mVar 4) (aCons (mTup (aCons (mVar 2) (aCons (mVar 9) (aCons (mIf (bBool (mOp2 isO (mVar 10) (mC .non))) (mC (.int 0)) (mOp2 ixO (mVar 10) (mC (.int 4)))) (aCons (mIf (bBool (mOp2 isO (mVar 11) (mC .non))) (mC (.str "")) (mOp2 ixO (mOp2 ixO (mOp2 ixO (mVar 0) (mC (.int 0))) (mVar 11)) (mC (.int 0)))) (aCons (mVar 12) aNil)))))) aNil)))
      sNext))
    (sSeq (sSet (mCallN sortedN (aCons (mLc (iSeq (mCallF 1 F_law_inside (aCons (mVar 3) aNil))) (gVar 10) (bBool (mOp2 eqO (mOp2 ixO (mVar 10) (mC (.int 2))) (mOp2 ixO (mOp2 ixO (mOp2 ixO (mVar 0) (mC (.int 3))) (mOp2 ixO (mVar 10) (mC (.int 0)))) (mC (.int 2))))) (mTup (aCons (mOp2 ixO (mVar 10) (mC (.int 4))) (aCons (mOp2 ixO (mVar 10) (mC (.int 2))) aNil))) [10]) aNil)) (gVar 7))
    (sSeq (sExpr (mMeth isLst extendM (mVar 4) (aCons (mLc (iSeq (mVar 7)) (gVar 13) bYes (mTup (aCons (mVar 2) (aCons (mC (.str "late")) (aCons (mOp2 ixO (mVar 13) (mC (.int 0))) (aCons (mC (.str "")) (aCons (mOp2 ixO (mVar 13) (mC (.int 1))) aNil)))))) [13]) aNil)))
    sNext)))))))
  (sSeq (sRet (mVar 4))
  sNext)))
noncomputable def F_law_log : ON := runF S_law_log 15
noncomputable def S_law_lines : SM :=
  (sSeq (sSet (mCallF 1 F_law_small (aCons (mVar 0) aNil)) (gVar 1))
  (sSeq (sSet (mLc (iSeq (mOp2 ixO (mVar 1) (mC (.int 1)))) (gVar 5) bYes (mOp2 ixO (mVar 5) (mC (.int 0))) [5]) (gVar 2))
  (sSeq (sSet (mCallN tupleN (aCons (mLc (iRange1 (mOp2 addD (mC (.int 1)) (mCallF 2 F_law_taken (aCons (mVar 0) (aCons (mC (.int 3)) aNil))))) (gVar 6) bYes (mTup (aCons (mCallF 2 F_law_taken (aCons (mVar 0) (aCons (mOp2 ixO (mVar 1) (mC (.int 2))) aNil))) (aCons (mCallF 2 F_law_pick (aCons (mVar 0) (aCons (mVar 2) aNil))) (aCons (mOp2 addD (mC (.int 1)) (mCallF 2 F_law_taken (aCons (mVar 0) (aCons (mC (.int 30)) aNil)))) aNil)))) [6]) aNil)) (gVar 3))
  (sSeq (sSet (mTup (aCons (mOp2 ixO (mVar 1) (mC (.int 0))) (aCons (mOp2 ixO (mVar 1) (mC (.int 1))) (aCons (mOp2 ixO (mVar 1) (mC (.int 2))) (aCons (mVar 3) (aCons (mOp2 ixO (mVar 1) (mC (.int 4))) (aCons (mTup (aCons (mCallF 2 F_law_pick (aCons (mVar 0) (aCons (mLst (aCons (mC (.int 1)) (aCons (mC (.int 2)) (aCons (mC (.int 3)) aNil)))) aNil))) (aCons (mOp2 ixO (mOp2 ixO (mVar 1) (mC (.int 5))) (mC (.int 1))) aNil))) (aCons (mCallF 2 F_law_taken (aCons (mVar 0) (aCons (mC (.int 3)) aNil))) aNil)))))))) (gVar 1))
  (sSeq (sSet (mOp2 ixO (mCallF 3 F_law_walk (aCons (mVar 0) (aCons (mVar 1) (aCons (mCallF 2 F_law_pick (aCons (mVar 0) (aCons (mLst (aCons (mC (.int 0)) (aCons (mC (.int 4)) (aCons (mC (.int 8)) (aCons (mC (.int 12)) (aCons (mC (.int 16)) aNil)))))) aNil))) aNil)))) (mC (.int 0))) (gVar 4))
  (sSeq (sRet (mTup (aCons (mVar 1) (aCons (mVar 4) (aCons (mCallF 2 F_law_log (aCons (mVar 1) (aCons (mVar 4) aNil))) aNil)))))
  sNext))))))
noncomputable def F_law_lines : ON := runF S_law_lines 7
noncomputable def S_law_alike (self : ON) : SM :=
  (sSeq (sIf (bTru (mCallN isinstN (aCons (mVar 1) (aCons (mTup (aCons (mC (.ty "tuple")) (aCons (mC (.ty "list")) aNil))) aNil))))
    (sSeq (sIf (bOr (bNot (bTru (mCallN isinstN (aCons (mVar 0) (aCons (mTup (aCons (mC (.ty "tuple")) (aCons (mC (.ty "list")) aNil))) aNil))))) (bBool (mOp2 neO (mCallN isinstN (aCons (mVar 0) (aCons (mC (.ty "list")) aNil))) (mCallN isinstN (aCons (mVar 1) (aCons (mC (.ty "list")) aNil))))))
      (sSeq (sRet (mC (.bl false)))
      sNext)
      sNext)
    (sSeq (sIf (bBool (mOp2 neO (mCallN lenN (aCons (mVar 0) aNil)) (mCallN lenN (aCons (mVar 1) aNil))))
      (sSeq (sRet (mC (.bl false)))
      sNext)
      sNext)
    (sSeq (sRet (mOp2 eqO (mLc (iRange1 (mCallN lenN (aCons (mVar 1) aNil))) (gVar 2) (bNot (bTru (mCallF 2 self (aCons (mOp2 ixO (mVar 0) (mVar 2)) (aCons (mOp2 ixO (mVar 1) (mVar 2)) aNil))))) (mVar 2) [2]) (mLst aNil)))
    sNext)))
    sNext)
  (sSeq (sIf (bOr (bBool (mOp2 isO (mVar 1) (mC .non))) (bTru (mCallN isinstN (aCons (mVar 1) (aCons (mC (.ty "str")) aNil)))))
    (sSeq (sRet (mAndV (mOp2 eqO (mVar 0) (mVar 1)) (mOp2 eqO (mCallN isinstN (aCons (mVar 0) (aCons (mC (.ty "str")) aNil))) (mCallN isinstN (aCons (mVar 1) (aCons (mC (.ty "str")) aNil))))))
    sNext)
    sNext)
  (sSeq (sRet (mAndV (mCallN isinstN (aCons (mVar 0) (aCons (mC (.ty "int")) aNil))) (mAndV (mOp2 eqO (mCallN isinstN (aCons (mVar 0) (aCons (mC (.ty "bool")) aNil))) (mCallN isinstN (aCons (mVar 1) (aCons (mC (.ty "bool")) aNil)))) (mOp2 eqO (mVar 0) (mVar 1)))))
  sNext)))
noncomputable def F_law_alike_at : Nat → ON
  | 0 => fun _ _ => none
  | n + 1 => runF (S_law_alike (F_law_alike_at n)) 3
noncomputable abbrev F_law_alike : ON := F_law_alike_at 12
noncomputable def S_is_whole : SM :=
  (sSeq (sRet (mAndV (mCallN isinstN (aCons (mVar 0) (aCons (mC (.ty "int")) aNil))) (mNotV (mCallN isinstN (aCons (mVar 0) (aCons (mC (.ty "bool")) aNil))))))
  sNext)
noncomputable def F_is_whole : ON := runF S_is_whole 1
noncomputable def S_is_within : SM :=
  (sSeq (sRet (mAndV (mCallF 1 F_is_whole (aCons (mVar 0) aNil)) (mChain leO leO (mVar 1) (mVar 0) (mVar 2))))
  sNext)
noncomputable def F_is_within : ON := runF S_is_within 3
noncomputable def S_is_row : SM :=
  (sSeq (sRet (mAndV (mCallN isinstN (aCons (mVar 0) (aCons (mC (.ty "tuple")) aNil))) (mOp2 eqO (mCallN lenN (aCons (mVar 0) aNil)) (mVar 1))))
  sNext)
noncomputable def F_is_row : ON := runF S_is_row 2
noncomputable def S_is_log_row : SM :=
  (sSeq (sIf (bOr (bNot (bTru (mCallF 2 F_is_row (aCons (mVar 0) (aCons (mC (.int 5)) aNil))))) (bNot (bTru (mCallF 3 F_is_within (aCons (mOp2 ixO (mVar 0) (mC (.int 0))) (aCons (mC (.int 0)) (aCons (mOp2 subD (mC c_MOST_MOMENTS) (mC (.int 1))) aNil)))))))
    (sSeq (sRet (mC (.bl false)))
    sNext)
    sNext)
  (sSeq (sIf (bOr (bNot (bTru (mCallN isinstN (aCons (mOp2 ixO (mVar 0) (mC (.int 1))) (aCons (mC (.ty "str")) aNil))))) (bOr (bBool (mOp2 notInO (mOp2 ixO (mVar 0) (mC (.int 1))) (mC c_WORDS))) (bOr (bNot (bTru (mCallF 1 F_is_whole (aCons (mOp2 ixO (mVar 0) (mC (.int 2))) aNil)))) (bBool (mOp2 ltO (mOp2 ixO (mVar 0) (mC (.int 2))) (mC (.int 0)))))))
    (sSeq (sRet (mC (.bl false)))
    sNext)
    sNext)
  (sSeq (sRet (mAndV (mCallN isinstN (aCons (mOp2 ixO (mVar 0) (mC (.int 3))) (aCons (mC (.ty "str")) aNil))) (mCallF 1 F_is_whole (aCons (mOp2 ixO (mVar 0) (mC (.int 4))) aNil))))
  sNext)))
noncomputable def F_is_log_row : ON := runF S_is_log_row 1
noncomputable def S_require_log : SM :=
  (sSeq (sIf (bNot (bTru (mCallN isinstN (aCons (mVar 0) (aCons (mC (.ty "tuple")) aNil)))))
    (sSeq sNo
    sNext)
    sNext)
  (sSeq (sFor (iEnum (mVar 0)) (gTupM 2 (gsCons (gVar 1) (gsCons (gVar 2) gsNil)))
    (sSeq (sIf (bNot (bTru (mCallF 1 F_is_log_row (aCons (mVar 2) aNil))))
      (sSeq sNo
      sNext)
      sNext)
    sNext))
  sNext))
noncomputable def F_require_log : ON := runF S_require_log 3
noncomputable def S_require_moments : SM :=
  (sSeq (sIf (bNot (bTru (mCallF 3 F_is_within (aCons (mVar 0) (aCons (mC (.int 0)) (aCons (mC c_MOST_MOMENTS) aNil))))))
    (sSeq sNo
    sNext)
    sNext)
  sNext)
noncomputable def F_require_moments : ON := runF S_require_moments 1
noncomputable def S_strike_shown : SM :=
  (sSeq (sIf (bBool (mOp2 eqO (mOp2 ixO (mVar 0) (mC (.int 1))) (mC (.str "struck"))))
    (sSeq (sRet (mOp2 ixO (mVar 0) (mC (.int 3))))
    sNext)
    sNext)
  (sSeq (sRet (mIf (bBool (mOp2 eqO (mOp2 ixO (mVar 0) (mC (.int 1))) (mC (.str "spoiled")))) (mOp2 addD (mOp2 ixO (mVar 0) (mC (.int 3))) (mC c_SPOIL)) (mC c_NOTHING)))
  sNext))
noncomputable def F_strike_shown : ON := runF S_strike_shown 1
noncomputable def S_course_shown : SM :=
  (sSeq (sExpr (mCallF 1 F_require_log (aCons (mVar 0) aNil)))
  (sSeq (sExpr (mCallF 1 F_require_moments (aCons (mVar 1) aNil)))
  (sSeq (sSet (mOp2 mulD (mLst (aCons (mC c_NOTHING) aNil)) (mVar 1)) (gVar 2))
  (sSeq (sFor (iSeq (mVar 0)) (gVar 3)
    (sSeq (sIf (bAnd (bBool (mOp2 ltO (mOp2 ixO (mVar 3) (mC (.int 0))) (mVar 1))) (bBool (mOp2 neO (mCallF 1 F_strike_shown (aCons (mVar 3) aNil)) (mC c_NOTHING))))
      (sSeq (sSet (mCallF 1 F_strike_shown (aCons (mVar 3) aNil)) (gSubM (mVar 2) (mOp2 ixO (mVar 3) (mC (.int 0)))))
      sNext)
      sNext)
    sNext))
  (sSeq (sRet (mCallN tupleN (aCons (mVar 2) aNil)))
  sNext)))))
noncomputable def F_course_shown : ON := runF S_course_shown 4
noncomputable def S_breaks_in : SM :=
  (sSeq (sExpr (mCallF 1 F_require_log (aCons (mVar 0) aNil)))
  (sSeq (sRet (mCallN tupleN (aCons (mLc (iSeq (mVar 0)) (gVar 1) (bBool (mOp2 eqO (mOp2 ixO (mVar 1) (mC (.int 1))) (mC (.str "struck")))) (mVar 1) [1]) aNil)))
  sNext))
noncomputable def F_breaks_in : ON := runF S_breaks_in 2
noncomputable def S_law_tickets : SM :=
  (sSeq (sRet (mCallN sortedN (aCons (mLc (iSeq (mVar 0)) (gVar 1) (bBool (mOp2 eqO (mOp2 ixO (mVar 1) (mC (.int 1))) (mC (.str "came")))) (mOp2 ixO (mVar 1) (mC (.int 2))) [1]) aNil)))
  sNext)
noncomputable def F_law_tickets : ON := runF S_law_tickets 2
noncomputable def S_tickets_in : SM :=
  (sSeq (sExpr (mCallF 1 F_require_log (aCons (mVar 0) aNil)))
  (sSeq (sRet (mCallN tupleN (aCons (mCallN sortedN (aCons (mLc (iSeq (mVar 0)) (gVar 1) (bBool (mOp2 eqO (mOp2 ixO (mVar 1) (mC (.int 1))) (mC (.str "came")))) (mOp2 ixO (mVar 1) (mC (.int 2))) [1]) aNil)) aNil)))
  sNext))
noncomputable def F_tickets_in : ON := runF S_tickets_in 2
noncomputable def S_law : SM :=
  (sSeq (sSet (mLst (aCons (mVar 0) (aCons (mC (.int 0)) (aCons (mC (.int 7211)) (aCons (mC (.int 0)) aNil))))) (gVar 1))
  (sSeq (sFor (iRange1 (mC (.int 4))) (gVar 2)
    (sSeq (sSet (mCallF 1 F_law_lines (aCons (mVar 1) aNil)) (gTupM 3 (gsCons (gVar 5) (gsCons (gVar 6) (gsCons (gVar 7) gsNil)))))
    (sSeq (sSet (mCallF 2 F_law_taken (aCons (mVar 1) (aCons (mOp2 addD (mCallN lenN (aCons (mVar 6) aNil)) (mC (.int 3))) aNil))) (gVar 3))
    (sSeq (sSet (mSl (mOp2 addD (mVar 6) (mOp2 mulD (mTup (aCons (mC (.str "-")) aNil)) (mC (.int 3)))) pNo (pInt (mVar 3))) (gVar 4))
    (sSeq (sIf (bOr (bNot (bTru (mCallF 2 F_law_alike (aCons (mCallF 2 F_course_shown (aCons (mCallN tupleN (aCons (mVar 7) aNil)) (aCons (mVar 3) aNil))) (aCons (mVar 4) aNil))))) (bNot (bTru (mCallF 2 F_law_alike (aCons (mCallF 2 F_course_shown (aCons (mCallN tupleN (aCons (mVar 7) aNil)) (aCons (mCallN lenN (aCons (mVar 6) aNil)) aNil))) (aCons (mVar 6) aNil))))))
      (sSeq (sRet (mC (.bl false)))
      sNext)
      sNext)
    (sSeq (sIf (bNot (bTru (mCallF 2 F_law_alike (aCons (mCallF 1 F_breaks_in (aCons (mCallN tupleN (aCons (mVar 7) aNil)) aNil)) (aCons (mCallN tupleN (aCons (mLc (iSeq (mVar 7)) (gVar 8) (bBool (mOp2 eqO (mOp2 ixO (mVar 8) (mC (.int 1))) (mC (.str "struck")))) (mVar 8) [8]) aNil)) aNil)))))
      (sSeq (sRet (mC (.bl false)))
      sNext)
      sNext)
    (sSeq (sIf (bNot (bTru (mCallF 2 F_law_alike (aCons (mCallF 1 F_tickets_in (aCons (mCallN tupleN (aCons (mVar 7) aNil)) aNil)) (aCons (mCallN tupleN (aCons (mCallF 1 F_law_tickets (aCons (mVar 7) aNil)) aNil)) aNil)))))
      (sSeq (sRet (mC (.bl false)))
      sNext)
      sNext)
    sNext)))))))
  (sSeq (sRet (mC (.bl true)))
  sNext)))
noncomputable def F_law : ON := runF S_law 9
end MP

/-! text Mini17 -/
set_option Elab.async false
set_option linter.all false
set_option maxRecDepth 100000
set_option maxHeartbeats 4000000
/-! == of plain data. -/
namespace MP
open PySem PySem.Spec PyProof.Rows
open L2 hiding St
/-- scalars and tuples, n deep at most -/
def plain : Nat → D → Bool
  | _, .non => true
  | _, .bl _ => true
  | _, .int _ => true
  | _, .str x => PyData.strOk x
  | n + 1, .tup xs => xs.all (plain n)
  | _, _ => false
def toPy : Nat → D → PyData
  | _, .non => .none
  | _, .bl b => .bool b
  | _, .int i => .int i
  | _, .str x => .str x
  | n + 1, .tup xs => .tuple (xs.map (toPy n))
  | _, _ => .none
theorem pyD_plain (h : Hs) : ∀ (n k : Nat) (d : D), n ≤ k → plain n d = true → pyD h k d = some (toPy n d) := by
  intro n
  induction n with
  | zero =>
    intro k d hk hp
    cases d with
    | tup xs => cases hp
    | loc l => cases hp
    | gl a => cases hp
    | ty a => cases hp
    | _ => unfold pyD; rfl
  | succ n ih =>
    intro k d hk hp
    cases d with
    | tup xs =>
      obtain ⟨k, rfl⟩ : ∃ j, k = j + 1 := ⟨k - 1, by omega⟩
      have : pyDs h k xs = some (xs.map (toPy n)) := by
        have hp' : xs.all (plain n) = true := hp
        clear hp
        induction xs with
        | nil => unfold pyDs; rfl
        | cons x xs ihx =>
          rw [List.all_cons, Bool.and_eq_true] at hp'
          unfold pyDs
          rw [ih k x (by omega) hp'.1, ihx hp'.2]
          rfl
      unfold pyD
      rw [this]
      rfl
    | loc l => cases hp
    | gl a => cases hp
    | ty a => cases hp
    | _ => unfold pyD; rfl
theorem pyDs_plain (h : Hs) (n k : Nat) (xs : List D) (hk : n ≤ k) (hp : xs.all (plain n) = true) : pyDs h k xs = some (xs.map (toPy n)) := by
  induction xs with
  | nil => unfold pyDs; rfl
  | cons x xs ihx =>
    rw [List.all_cons, Bool.and_eq_true] at hp
    unfold pyDs
    rw [pyD_plain h n k x hk hp.1, ihx hp.2]
    rfl
theorem lay_plain : ∀ (n : Nat) (d : D), plain n d = true → (toPy n d).canLay0 = true ∧ (toPy n d).depth ≤ n := by
  intro n
  induction n with
  | zero =>
    intro d hp
    cases d with
    | tup xs => cases hp
    | loc l => cases hp
    | gl a => cases hp
    | ty a => cases hp
    | str x => exact ⟨by simp only [toPy, PyData.canLay0]; exact hp, by simp [toPy, PyData.depth]⟩
    | _ => exact ⟨by simp [toPy, PyData.canLay0], by simp [toPy, PyData.depth]⟩
  | succ n ih =>
    intro d hp
    cases d with
    | tup xs =>
      have hp' : xs.all (plain n) = true := hp
      clear hp
      have : PyData.canLayAll0 (xs.map (toPy n)) = true ∧ PyData.depthAll (xs.map (toPy n)) ≤ n := by
        induction xs with
        | nil => exact ⟨by simp [PyData.canLayAll0], by simp [PyData.depthAll]⟩
        | cons x xs ihx =>
          rw [List.all_cons, Bool.and_eq_true] at hp'
          obtain ⟨a1, a2⟩ := ih x hp'.1
          obtain ⟨b1, b2⟩ := ihx hp'.2
          refine ⟨?_, ?_⟩
          · rw [List.map_cons, PyData.canLayAll0, a1, b1]; rfl
          · rw [List.map_cons, PyData.depthAll]; omega
      refine ⟨?_, ?_⟩
      · rw [toPy, PyData.canLay0]; exact this.1
      · rw [toPy, PyData.depth]; omega
    | loc l => cases hp
    | gl a => cases hp
    | ty a => cases hp
    | str x => exact ⟨by simp only [toPy, PyData.canLay0]; exact hp, by simp [toPy, PyData.depth]⟩
    | _ => exact ⟨by simp [toPy, PyData.canLay0], by simp [toPy, PyData.depth]⟩
theorem shaped_plain {n : Nat} {d : D} (h : plain n d = true) (hn : n ≤ 64) : SeqAt.shaped (toPy n d) = true := by
  obtain ⟨a, b⟩ := lay_plain n d h
  unfold SeqAt.shaped
  rw [a, decide_eq_true (by omega)]
  rfl
theorem eqS_tup (xs ys : List D) : eqS (.tup xs) (.tup ys) = none := rfl
theorem eqD_tups {h : Hs} {n : Nat} {xs ys : List D} (hn : n ≤ 20) (h1 : plain n (.tup xs) = true) (h2 : plain n (.tup ys) = true) : eqD h (.tup xs) (.tup ys) = some (PyData.eqv (toPy n (.tup xs)) (toPy n (.tup ys))) := by
  unfold eqD
  rw [eqS_tup]
  show (match pyD h 20 (.tup xs), pyD h 20 (.tup ys) with | some p, some q => if _ then _ else none | _, _ => none) = _
  rw [pyD_plain h n 20 _ hn h1, pyD_plain h n 20 _ hn h2]
  show (if _ then _ else none) = _
  rw [if_pos ⟨shaped_plain h1 (by omega), shaped_plain h2 (by omega)⟩]
theorem eqv_nilT (ps : List PyData) : PyData.eqv (.tuple ps) (.tuple []) = ps.isEmpty := by
  cases ps <;> simp [PyData.eqv, PyData.eqvAll]
theorem eqv_nilL (ps : List PyData) : PyData.eqv (.list ps) (.list []) = ps.isEmpty := by
  cases ps <;> simp [PyData.eqv, PyData.eqvAll]
/-- xs != () -/
theorem ne_nilT {h : Hs} {n : Nat} {xs : List D} (hn : n ≤ 19) (hp : xs.all (plain n) = true) : neO (.tup xs) (.tup []) h = some (.bl (!xs.isEmpty), h) := by
  unfold neO
  rw [eqD_tups (n := n + 1) (by omega) hp rfl]
  simp only [toPy, List.map_nil, eqv_nilT, Option.map_some]
  cases xs <;> rfl
/-- xs == [], xs != [] of lists of plain things -/
theorem eq_nilL {h : Hs} {n a b : Nat} {xs : List D} (ha : itemsAt h a = some xs) (hb : itemsAt h b = some []) (hn : n ≤ 19) (hp : xs.all (plain n) = true) : eqD h (.loc a) (.loc b) = some xs.isEmpty := by
  have e1 : pyD h 20 (.loc a) = some (.list (xs.map (toPy n))) := by
    unfold pyD
    rw [ha]
    show Option.map _ (pyDs h 19 xs) = _
    rw [pyDs_plain h n 19 xs hn hp]; rfl
  have e2 : pyD h 20 (.loc b) = some (.list []) := by
    unfold pyD
    rw [hb]
    show Option.map _ (pyDs h 19 []) = _
    unfold pyDs; rfl
  unfold eqD
  show (match pyD h 20 (.loc a), pyD h 20 (.loc b) with | some p, some q => if _ then _ else none | _, _ => none) = _
  rw [e1, e2]
  show (if _ then _ else none) = _
  rw [if_pos, eqv_nilL]
  · cases xs <;> rfl
  · obtain ⟨c1, c2⟩ := lay_plain (n + 1) (.tup xs) hp
    rw [toPy, PyData.canLay0] at c1
    rw [toPy, PyData.depth] at c2
    refine ⟨?_, by decide⟩
    unfold SeqAt.shaped
    rw [PyData.canLay0, c1, decide_eq_true (by rw [PyData.depth]; omega)]
    rfl
theorem ne_nilL {h : Hs} {n a b : Nat} {xs : List D} (ha : itemsAt h a = some xs) (hb : itemsAt h b = some []) (hn : n ≤ 19) (hp : xs.all (plain n) = true) : neO (.loc a) (.loc b) h = some (.bl (!xs.isEmpty), h) := by
  unfold neO
  rw [eq_nilL ha hb hn hp]
  rfl
theorem eqo_nilL {h : Hs} {n a b : Nat} {xs : List D} (ha : itemsAt h a = some xs) (hb : itemsAt h b = some []) (hn : n ≤ 19) (hp : xs.all (plain n) = true) : eqO (.loc a) (.loc b) h = some (.bl xs.isEmpty, h) := by
  unfold eqO
  rw [eq_nilL ha hb hn hp]
  rfl
/-- three texts at once -/
theorem eq_sss {h : Hs} {a b c d e f : Str} (ha : PyData.strOk a = true) (hb : PyData.strOk b = true) (hc : PyData.strOk c = true) (hd : PyData.strOk d = true) (he : PyData.strOk e = true) (hf : PyData.strOk f = true) :
    eqO (.tup [.str a, .str b, .str c]) (.tup [.str d, .str e, .str f]) h = some (.bl (decide (a = d ∧ b = e ∧ c = f)), h) := by
  unfold eqO
  rw [eqD_tups (n := 1) (by omega) (by simp [plain, ha, hb, hc]) (by simp [plain, hd, he, hf])]
  simp only [toPy, List.map_cons, List.map_nil, PyData.eqv, PyData.eqvAll, Option.map_some]
  congr 3
  rw [Bool.eq_iff_iff]
  simp
/-! ### x in a list | tuple of scalars -/
theorem in_strs {h : Hs} {a : Str} {y : D} {xs : List Str} (hy : seqAt h y = some (xs.map D.str)) (hne : ∀ b, y ≠ .str b) : inO (.str a) y h = some (.bl (decide (a ∈ xs)), h) := by
  have key : inD h (.str a) y = some (decide (a ∈ xs)) := by
    unfold inD
    split
    · exact absurd rfl (hne _)
    · rw [hy]
      show (if _ then _ else _) = _
      rw [if_pos ⟨rfl, by simp [flatD]⟩]
      congr 1
      rw [Bool.eq_iff_iff]
      simp [eqF]
  unfold inO
  rw [key]
  rfl
theorem nin_strs {h : Hs} {a : Str} {y : D} {xs : List Str} (hy : seqAt h y = some (xs.map D.str)) (hne : ∀ b, y ≠ .str b) : notInO (.str a) y h = some (.bl (!decide (a ∈ xs)), h) := by
  have := in_strs (a := a) hy hne
  unfold inO at this
  unfold notInO
  cases q : inD h (.str a) y with
  | none => rw [q] at this; cases this
  | some b => rw [q] at this; simp at this; simp [this]
/-! ### comprehensions over told lists -/
theorem wLc_pureM {α : Type} {dec : α → D} {gd : Gd} {g : GM} {mt : BM} {me : EM} {ρ0 : Rho} {as : List α} {h : Hs} {Q : Hs → Prop} (t : α → Bool) (f : α → D) (hs : as.length < sizeLine) (hgd : ∀ h', Fm [] h h' → gOk gd h')
    (step : ∀ (x : α) (h1 : Hs), x ∈ as → Fm [] h h1 → wG g (dec x) ρ0 h1 (fun ρ1 h2 => Fm [] h1 h2 ∧ wB mt ρ1 h2 (fun b h3 => b = t x ∧ Fm [] h2 h3 ∧ (b = true → wE me ρ1 h3 (fun y h4 => y = f x ∧ Fm [] h3 h4)))))
    (fin : ∀ h', Fm [] h h' → Ls h' h.length ((as.filter t).map f) → Q h') : wLc gd g mt me ρ0 h.length (as.map dec) (h ++ [.lst []]) Q := by
  refine wLc_inv (fun i acc h1 => Fm [] h h1 ∧ acc = ((as.take i).filter t).map f) (app_new h _) (by simpa using hs) ⟨(Fm.refl _ _).app _, by simp⟩ (fun i acc h1 hi _ => hgd _ hi.1) (fun i x acc h1 hx ⟨hi, ha⟩ he hl => ?_) (fun acc h1 ⟨hi, ha⟩ he => ?_)
  · rw [List.getElem?_map] at hx
    cases ea : as[i]? with
    | none => rw [ea] at hx; cases hx
    | some a =>
    rw [ea] at hx
    cases hx
    refine (step a h1 (List.mem_of_getElem? ea) hi).imp fun ρ1 h2 ⟨F2, w⟩ => w.imp fun b h3 ⟨hb, F3, w⟩ => ?_
    have ht : as.take (i + 1) = as.take i ++ [a] := by rw [List.take_add_one, ea]; rfl
    cases b
    · rw [if_neg (by decide)]
      refine ⟨F3.get0 (F2.get0 he), (hi.trans F2).trans F3, ?_⟩
      rw [ht, List.filter_append, List.map_append, ← ha]
      simp [← hb]
    · rw [if_pos rfl]
      refine (w rfl).imp fun y h4 ⟨ey, F4⟩ => ⟨F4.get0 (F3.get0 (F2.get0 he)), ((((hi.trans F2).trans F3).trans F4).set _ (.inr (Nat.le_refl _))), ?_⟩
      rw [ht, List.filter_append, List.map_append, ← ha, ey]
      simp [← hb]
  · rw [List.length_map, List.take_length] at ha
    subst ha
    exact fin h1 hi he
theorem wLc_mapM {α : Type} {dec : α → D} {gd : Gd} {g : GM} {me : EM} {ρ0 : Rho} {as : List α} {h : Hs} {Q : Hs → Prop} (f : α → D) (hs : as.length < sizeLine) (hgd : ∀ h', Fm [] h h' → gOk gd h')
    (step : ∀ (x : α) (h1 : Hs), x ∈ as → Fm [] h h1 → wG g (dec x) ρ0 h1 (fun ρ1 h2 => Fm [] h1 h2 ∧ wE me ρ1 h2 (fun y h4 => y = f x ∧ Fm [] h2 h4)))
    (fin : ∀ h', Fm [] h h' → Ls h' h.length (as.map f) → Q h') : wLc gd g bYes me ρ0 h.length (as.map dec) (h ++ [.lst []]) Q :=
  wLc_pureM (fun _ => true) f hs hgd (fun x h1 hx F => (step x h1 hx F).imp fun ρ1 h2 ⟨a, b⟩ => ⟨a, by rw [wB_Yes]; exact ⟨rfl, Fm.refl _ _, fun _ => b⟩⟩) fun h' F L => fin h' F (by rw [List.filter_eq_self.mpr (by simp)] at L; exact L)
@[simp] theorem ext_t (n : Nat) (ys : List D) (h : Hs) : extendM (.loc n) [.tup ys] h = match lstAt h n with
    | some xs => if xs.length + ys.length ≤ sizeLine then some (.non, h.set n (.lst (xs ++ ys))) else none
    | none => none := by
  unfold lstAt extendM
  dsimp only
  cases q : h[n]? with
  | none => rfl
  | some o => cases o <;> rfl
@[simp] theorem ext_l (n m : Nat) (h : Hs) : extendM (.loc n) [.loc m] h = match lstAt h n, lstAt h m with
    | some xs, some ys => if xs.length + ys.length ≤ sizeLine then some (.non, h.set n (.lst (xs ++ ys))) else none
    | _, _ => none := by
  unfold lstAt extendM
  dsimp only
  cases q : h[n]? with
  | none => rfl
  | some o => cases q2 : h[m]? with
    | none => cases o <;> rfl
    | some o2 => cases o <;> cases o2 <;> rfl
@[simp] theorem add_ll (n m : Nat) (h : Hs) : addD (.loc n) (.loc m) h = match lstAt h n, lstAt h m with
    | some xs, some ys => if xs.length + ys.length ≤ sizeLine then some (.loc h.length, h ++ [.lst (xs ++ ys)]) else none
    | _, _ => none := by
  unfold lstAt addD
  dsimp only
  cases q : h[n]? with
  | none => rfl
  | some o => cases q2 : h[m]? with
    | none => cases o <;> rfl
    | some o2 => cases o <;> cases o2 <;> rfl
end MP

/-! text Mini18 -/
set_option Elab.async false
set_option linter.all false
set_option maxRecDepth 100000
set_option maxHeartbeats 4000000
/-! What a reading gives: classes, closures, dicts. -/
namespace MP
open PySem PySem.Spec PyProof.Rows
open L2 hiding St

def optP {α : Type} (o : Option α) (P : α → Prop) : Prop := ∃ a, o = some a ∧ P a
@[simp ↓] theorem optP_some {α : Type} (a : α) (P : α → Prop) : optP (some a) P = P a := propext ⟨fun ⟨_, e, q⟩ => (by cases e; exact q), fun q => ⟨a, rfl, q⟩⟩
@[simp ↓] theorem optP_none {α : Type} (P : α → Prop) : optP (none : Option α) P = False := propext ⟨fun ⟨_, e, _⟩ => (by cases e), fun q => q.elim⟩
theorem optP.imp {α : Type} {o : Option α} {P P' : α → Prop} (w : optP o P) (i : ∀ a, P a → P' a) : optP o P' := let ⟨a, e, q⟩ := w; ⟨a, e, i a q⟩
theorem wO_bindE {α : Type} (o : Option α) (f : α → Option (D × Hs)) (Q : QE) : wO (o.bind f) Q = optP o (fun a => wO (f a) Q) := propext ⟨fun ⟨d, h, e, q⟩ => (by
  obtain ⟨a, e1, e2⟩ := bind_some e
  exact ⟨a, e1, d, h, e2, q⟩), fun ⟨a, e1, d, h, e2, q⟩ => ⟨d, h, by rw [e1]; exact e2, q⟩⟩
theorem optP_pair {α β : Type} (o : Option (α × β)) (P : α × β → Prop) : optP o P = ∃ a b, o = some (a, b) ∧ P (a, b) := propext ⟨fun ⟨⟨a, b⟩, e, q⟩ => ⟨a, b, e, q⟩, fun ⟨a, b, e, q⟩ => ⟨(a, b), e, q⟩⟩
theorem wE_bind (m : EM) (f : D × Hs → Option (D × Hs)) (ρ : Rho) (h : Hs) (Q : QE) : wO ((m ρ h).bind f) Q = wE m ρ h (fun x h1 => wO (f (x, h1)) Q) := by
  rw [wO_bindE, optP_pair]
  rfl
theorem wA_bind (m : AM) (f : List D × Hs → Option (D × Hs)) (ρ : Rho) (h : Hs) (Q : QE) : wO ((m ρ h).bind f) Q = wA m ρ h (fun x h1 => wO (f (x, h1)) Q) := by
  rw [wO_bindE, optP_pair]
  rfl
theorem wF_bind (F : ON) (f : D × Hs → Option (D × Hs)) (ds : List D) (h : Hs) (Q : QE) : wO ((F ds h).bind f) Q = wF F ds h (fun x h1 => wO (f (x, h1)) Q) := by
  rw [wO_bindE, optP_pair]
  rfl
theorem wO_if {p : Prop} [Decidable p] (a : Option (D × Hs)) (Q : QE) : wO (if p then a else none) Q = (p ∧ wO a Q) := propext ⟨fun w => (by
  by_cases h : p
  · rw [if_pos h] at w; exact ⟨h, w⟩
  · rw [if_neg h, wO_none] at w; exact w.elim), fun ⟨h, w⟩ => by rw [if_pos h]; exact w⟩
theorem wO_opt {α : Type} (o : Option α) (f : α → Option (D × Hs)) (Q : QE) : wO (match o with | some a => f a | none => none) Q = optP o (fun a => wO (f a) Q) := by
  cases o <;> simp

/-! ### instances -/
@[simp ↓] theorem insAt_loc (h : Hs) (n : Nat) : insAt h (.loc n) = match h[n]? with | some (.ins c fs) => some (n, c, fs) | _ => none := rfl
@[simp ↓] theorem wE_Fld (at_ : Ats) (f : Str) (mo : EM) (ρ : Rho) (h : Hs) (Q : QE) : wE (mFld at_ f mo) ρ h Q = wE mo ρ h (fun x h1 => optP (insAt h1 x) (fun r => (r.2.1, f) ∈ at_ ∧ optP (r.2.2.lookup f) (fun d => Q d h1))) := by
  show wO ((mo ρ h).bind _) Q = _
  rw [wE_bind]
  congr 1
  funext x h1
  dsimp only
  cases e : insAt h1 x with
  | none => simp
  | some r =>
    obtain ⟨n, c, fs⟩ := r
    dsimp only
    rw [wO_if, optP_some]
    congr 1
    cases fs.lookup f <;> simp
@[simp ↓] theorem wS_Fld (at_ : Ats) (f : Str) (mo me : EM) (ρ : Rho) (h : Hs) (Q : QS) : wS (sFldS at_ f mo me) ρ h Q = wE me ρ h (fun x h1 => wE mo ρ h1 (fun y h2 => optP (insAt h2 y) (fun r => (r.2.1, f) ∈ at_ ∧ r.2.2.length < 1000 ∧ Q .nx ρ (h2.set r.1 (.ins r.2.1 (putFD f x r.2.2)))))) := propext ⟨fun ⟨f', ρ', h', e, q⟩ => (by
  obtain ⟨⟨x, h1⟩, e1, e⟩ := bind_some e
  obtain ⟨⟨y, h2⟩, e2, e⟩ := bind_some e
  refine ⟨x, h1, e1, y, h2, e2, ?_⟩
  dsimp only at e
  split at e
  · rename_i n c fs ei
    split at e
    · rename_i hm
      cases e
      exact ⟨_, ei, hm.1, hm.2, q⟩
    · cases e
  · cases e), fun ⟨x, h1, e1, y, h2, e2, ⟨n, c, fs⟩, ei, h3, h4, q⟩ => ⟨.nx, ρ, _, by
    unfold sFldS
    rw [e1]
    show ((mo ρ h1).bind _) = _
    rw [e2]
    dsimp only [Option.bind_some]
    rw [ei]
    exact if_pos ⟨h3, h4⟩, q⟩⟩
@[simp ↓] theorem wE_MethI (n : Nat) (cs : Cands) (m : Str) (mo : EM) (ma : AM) (ρ : Rho) (h : Hs) (Q : QE) : wE (mMethI n cs m mo ma) ρ h Q = wE mo ρ h (fun x h1 => optP (insAt h1 x) (fun r => r.2.2.lookup m = none ∧ optP (cs.lookup r.2.1) (fun F => wA ma ρ h1 (fun ds h2 => ds.length = n ∧ wF F (.loc r.1 :: ds) h2 Q)))) := by
  show wO ((mo ρ h).bind _) Q = _
  rw [wE_bind]
  congr 1
  funext x h1
  dsimp only
  cases e : insAt h1 x with
  | none => simp
  | some r =>
    obtain ⟨l, c, fs⟩ := r
    dsimp only
    rw [optP_some]
    cases e1 : fs.lookup m with
    | some d => simp
    | none =>
      cases e2 : cs.lookup c with
      | none => simp
      | some F =>
        simp only [true_and, optP_some]
        rw [wA_bind]
        congr 1
        funext ds h2
        exact wO_if _ _
theorem wF_mkN (c : Str) (F : ON) (ds : List D) (h : Hs) (Q : QE) : wF (mkN c F) ds h Q = wF F (.loc h.length :: ds) (h ++ [.ins c []]) (fun v h' => v = .non ∧ Q (.loc h.length) h') := by
  show wO ((F _ _).bind _) Q = _
  rw [wF_bind]
  congr 1
  funext x h1
  dsimp only
  cases x <;> simp
@[simp ↓] theorem wE_Make (n : Nat) (c : Str) (F : ON) (ma : AM) (ρ : Rho) (h : Hs) (Q : QE) : wE (mMake n c F ma) ρ h Q = wA ma ρ h (fun ds h1 => ds.length = n ∧ wF (mkN c F) ds h1 Q) := by
  show wO ((ma ρ h).bind _) Q = _
  rw [wA_bind]
  congr 1
  funext ds h1
  exact wO_if _ _
@[simp ↓] theorem wE_MakeK (n m : Nat) (c : Str) (as : List ASrc) (F : ON) (ma mk : AM) (ρ : Rho) (h : Hs) (Q : QE) : wE (mMakeK n m c as F ma mk) ρ h Q = wA ma ρ h (fun ds h1 => wA mk ρ h1 (fun zs h2 => (ds.length = n ∧ zs.length = m) ∧ optP (srcs ds zs as) (fun all => wF (mkN c F) all h2 Q))) := by
  show wO ((ma ρ h).bind _) Q = _
  rw [wA_bind]
  congr 1
  funext ds h1
  dsimp only
  rw [wA_bind]
  congr 1
  funext zs h2
  dsimp only
  rw [wO_if, wO_bindE]
  rfl
/-! ### dicts -/
@[simp ↓] theorem dkAt_loc (h : Hs) (n : Nat) : dkAt h (.loc n) = match h[n]? with | some (.dK kvs) => some (n, kvs) | _ => none := rfl
@[simp ↓] theorem dtAt_loc (h : Hs) (n : Nat) : dtAt h (.loc n) = match h[n]? with | some (.dT kvs) => some (n, kvs) | _ => none := rfl
theorem ixD_dk {h : Hs} {x y : D} {n : Nat} {kvs : List (Key × D)} {k : Key} (e : dkAt h x = some (n, kvs)) (ek : keyOf y = some k) (Q : QE) : wO (ixD x y h) Q = optP (valD kvs k) (fun d => Q d h) := by
  unfold ixD
  rw [e]
  dsimp only
  rw [ek]
  show wO ((valD kvs k).map _) Q = _
  cases q : valD kvs k with
  | none => simp
  | some d => exact (wO_some _ _ _).trans (optP_some d (fun d => Q d h)).symm
theorem ixD_no {h : Hs} {x y : D} (e : dkAt h x = none) : ixD x y h = ixO x y h := by
  unfold ixD
  rw [e]
theorem inDk_dk {h : Hs} {x y : D} {n : Nat} {kvs : List (Key × D)} {k : Key} (e : dkAt h y = some (n, kvs)) (ek : keyOf x = some k) : inDk x y h = some (.bl (valD kvs k).isSome, h) := by
  unfold inDk
  rw [e]
  dsimp only
  rw [ek]
  rfl
theorem inDk_no {h : Hs} {x y : D} (e : dkAt h y = none) : inDk x y h = inO x y h := by
  unfold inDk
  rw [e]
theorem notInDk_dk {h : Hs} {x y : D} {n : Nat} {kvs : List (Key × D)} {k : Key} (e : dkAt h y = some (n, kvs)) (ek : keyOf x = some k) : notInDk x y h = some (.bl (!(valD kvs k).isSome), h) := by
  unfold notInDk
  rw [e]
  dsimp only
  rw [ek]
  rfl
theorem notInDk_no {h : Hs} {x y : D} (e : dkAt h y = none) : notInDk x y h = notInO x y h := by
  unfold notInDk
  rw [e]
def wK (m : KM) (ρ : Rho) (h : Hs) (Q : List Key → Hs → Prop) : Prop := ∃ ks h', m ρ h = some (ks, h') ∧ Q ks h'
@[simp ↓] theorem wK_Tup (ma : AM) (ρ : Rho) (h : Hs) (Q : List Key → Hs → Prop) : wK (kTup ma) ρ h Q = wA ma ρ h (fun ds h1 => ds.length ≤ sizeLine ∧ optP (keysOf ds) (fun ks => Q ks h1)) := propext ⟨fun ⟨ks, h', e, q⟩ => (by
  obtain ⟨⟨ds, h1⟩, e1, e⟩ := bind_some e
  dsimp only at e
  split at e
  · rename_i hl
    cases ek : keysOf ds with
    | none => rw [ek] at e; cases e
    | some ks' => rw [ek] at e; cases e; exact ⟨ds, _, e1, hl, _, ek, q⟩
  · cases e), fun ⟨ds, h1, e1, hl, ks, ek, q⟩ => ⟨ks, h1, by
    unfold kTup
    rw [e1]
    show (if _ then _ else _) = _
    rw [if_pos hl, ek]
    rfl, q⟩⟩
@[simp ↓] theorem wK_Sl (ma : EM) (ml mu : PM) (ρ : Rho) (h : Hs) (Q : List Key → Hs → Prop) : wK (kSl ma ml mu) ρ h Q = wE ma ρ h (fun x h1 => wP ml ρ h1 (fun l h2 => wP mu ρ h2 (fun u h3 => ∃ xs, x = .tup xs ∧ ¬ (HT.sIx xs.length 0 l = 0 ∧ HT.sIx xs.length xs.length u = xs.length) ∧ optP (keysOf (cutD xs l u)) (fun ks => Q ks h3)))) := propext ⟨fun ⟨ks, h', e, q⟩ => (by
  obtain ⟨⟨x, h1⟩, e1, e⟩ := bind_some e
  obtain ⟨⟨l, h2⟩, e2, e⟩ := bind_some e
  obtain ⟨⟨u, h3⟩, e3, e⟩ := bind_some e
  refine ⟨x, h1, e1, l, h2, e2, u, h3, e3, ?_⟩
  cases x with
  | tup xs =>
    dsimp only at e
    split at e
    · rename_i hw
      cases ek : keysOf (cutD xs l u) with
      | none => rw [ek] at e; cases e
      | some ks' => rw [ek] at e; cases e; exact ⟨xs, rfl, hw, _, ek, q⟩
    · cases e
  | _ => cases e), fun ⟨x, h1, e1, l, h2, e2, u, h3, e3, xs, ex, hw, ks, ek, q⟩ => ⟨ks, h3, by
    subst ex
    unfold kSl
    rw [e1]
    show ((ml ρ h1).bind _) = _
    rw [e2]
    show ((mu ρ h2).bind _) = _
    rw [e3]
    show (if _ then _ else _) = _
    rw [if_pos hw, ek]
    rfl, q⟩⟩
@[simp ↓] theorem wE_Get2 (mo mk mx : EM) (ρ : Rho) (h : Hs) (Q : QE) : wE (mGet2 mo mk mx) ρ h Q = wE mo ρ h (fun x h1 => optP (dkAt h1 x) (fun _ => wE mk ρ h1 (fun y h2 => wE mx ρ h2 (fun z h3 => optP (dkAt h3 x) (fun r => optP (keyOf y) (fun k => Q ((valD r.2 k).getD z) h3)))))) := by
  show wO ((mo ρ h).bind _) Q = _
  rw [wE_bind]
  congr 1
  funext x h1
  dsimp only
  cases e : dkAt h1 x with
  | none => simp
  | some r =>
    dsimp only
    rw [optP_some, wE_bind]
    congr 1
    funext y h2
    dsimp only
    rw [wE_bind]
    congr 1
    funext z h3
    dsimp only
    cases e2 : dkAt h3 x with
    | none => simp
    | some r2 =>
      cases e3 : keyOf y with
      | none => simp
      | some k => simp
@[simp ↓] theorem wE_Get2T (mo : EM) (mk : KM) (mx : EM) (ρ : Rho) (h : Hs) (Q : QE) : wE (mGet2T mo mk mx) ρ h Q = wE mo ρ h (fun x h1 => optP (dtAt h1 x) (fun _ => wK mk ρ h1 (fun ks h2 => wE mx ρ h2 (fun z h3 => optP (dtAt h3 x) (fun r => Q ((valD r.2 ks).getD z) h3))))) := by
  show wO ((mo ρ h).bind _) Q = _
  rw [wE_bind]
  congr 1
  funext x h1
  dsimp only
  cases e : dtAt h1 x with
  | none => simp
  | some r =>
    dsimp only
    rw [optP_some, wO_bindE, optP_pair]
    show (∃ a b, _ ∧ _) = ∃ a b, _ ∧ _
    congr 1
    funext ks
    congr 1
    funext h2
    congr 1
    dsimp only
    rw [wE_bind]
    congr 1
    funext z h3
    dsimp only
    cases e2 : dtAt h3 x with
    | none => simp
    | some r2 => simp
@[simp ↓] theorem wE_DNew (ρ : Rho) (h : Hs) (Q : QE) : wE mDNew ρ h Q = Q (.loc h.length) (h ++ [.dK []]) := wO_some _ _ _
def wDc {κ : Type} (gd : Gd) (g : GM) (mt : BM) (mkv : Rho → Hs → Option ((κ × D) × Hs)) (put : Hs → κ → D → Option Hs) (ρ0 : Rho) (xs : List D) (h : Hs) (Q : Hs → Prop) : Prop := ∃ h', dcLoop gd g mt mkv put ρ0 xs h = some h' ∧ Q h'
@[simp ↓] theorem wE_Dc (mi : IM) (g : GM) (mt : BM) (mk mv : EM) (vs : List Nat) (ρ : Rho) (h : Hs) (Q : QE) : wE (mDc mi g mt mk mv vs) ρ h Q = wI mi ρ h (fun xs gd h1 => wDc gd g mt (kvK mk mv) (putKAt h1.length) (wipeR ρ vs) xs (h1 ++ [.dK []]) (fun h2 => Q (.loc h1.length) h2)) := propext ⟨fun ⟨d, h', e, q⟩ => (by
  unfold mDc at e
  obtain ⟨⟨⟨xs, gd⟩, h1⟩, e1, e⟩ := bind_some e
  cases z : dcLoop gd g mt (kvK mk mv) (putKAt h1.length) (wipeR ρ vs) xs (h1 ++ [.dK []]) with
  | none => dsimp only at e; rw [z] at e; cases e
  | some h2 => dsimp only at e; rw [z] at e; cases e; exact ⟨_, _, _, e1, _, z, q⟩), fun ⟨xs, gd, h1, e1, h2, z, q⟩ => ⟨_, _, by unfold mDc; rw [e1]; show (Option.map _ (dcLoop _ _ _ _ _ _ _ _)) = _; rw [z]; rfl, q⟩⟩
@[simp ↓] theorem wE_DcT (mi : IM) (g : GM) (mt : BM) (mk : KM) (mv : EM) (vs : List Nat) (ρ : Rho) (h : Hs) (Q : QE) : wE (mDcT mi g mt mk mv vs) ρ h Q = wI mi ρ h (fun xs gd h1 => wDc gd g mt (kvT mk mv) (putTAt h1.length) (wipeR ρ vs) xs (h1 ++ [.dT []]) (fun h2 => Q (.loc h1.length) h2)) := propext ⟨fun ⟨d, h', e, q⟩ => (by
  unfold mDcT at e
  obtain ⟨⟨⟨xs, gd⟩, h1⟩, e1, e⟩ := bind_some e
  cases z : dcLoop gd g mt (kvT mk mv) (putTAt h1.length) (wipeR ρ vs) xs (h1 ++ [.dT []]) with
  | none => dsimp only at e; rw [z] at e; cases e
  | some h2 => dsimp only at e; rw [z] at e; cases e; exact ⟨_, _, _, e1, _, z, q⟩), fun ⟨xs, gd, h1, e1, h2, z, q⟩ => ⟨_, _, by unfold mDcT; rw [e1]; show (Option.map _ (dcLoop _ _ _ _ _ _ _ _)) = _; rw [z]; rfl, q⟩⟩
/-- what a turn's key and value give -/
def wKV {κ : Type} (m : Rho → Hs → Option ((κ × D) × Hs)) (ρ : Rho) (h : Hs) (Q : κ → D → Hs → Prop) : Prop := ∃ k d h', m ρ h = some ((k, d), h') ∧ Q k d h'
@[simp ↓] theorem wKV_K (mk mv : EM) (ρ : Rho) (h : Hs) (Q : Key → D → Hs → Prop) : wKV (kvK mk mv) ρ h Q = wE mk ρ h (fun y h1 => optP (keyOf y) (fun k => wE mv ρ h1 (fun z h2 => Q k z h2))) := propext ⟨fun ⟨k, d, h', e, q⟩ => (by
  obtain ⟨⟨y, h1⟩, e1, e⟩ := bind_some e
  obtain ⟨k', ek, e⟩ := bind_some e
  cases e2 : mv ρ h1 with
  | none => dsimp only at e; rw [e2] at e; cases e
  | some r => dsimp only at e; rw [e2] at e; cases e; exact ⟨y, h1, e1, _, ek, _, _, e2, q⟩), fun ⟨y, h1, e1, k, ek, z, h2, e2, q⟩ => ⟨k, z, h2, by
    unfold kvK
    rw [e1]
    show ((keyOf y).bind _) = _
    rw [ek]
    show Option.map _ (mv ρ h1) = _
    rw [e2]
    rfl, q⟩⟩
@[simp ↓] theorem wKV_T (mk : KM) (mv : EM) (ρ : Rho) (h : Hs) (Q : List Key → D → Hs → Prop) : wKV (kvT mk mv) ρ h Q = wK mk ρ h (fun ks h1 => wE mv ρ h1 (fun z h2 => Q ks z h2)) := propext ⟨fun ⟨k, d, h', e, q⟩ => (by
  obtain ⟨⟨y, h1⟩, e1, e⟩ := bind_some e
  cases e2 : mv ρ h1 with
  | none => dsimp only at e; rw [e2] at e; cases e
  | some r => dsimp only at e; rw [e2] at e; cases e; exact ⟨_, h1, e1, _, _, e2, q⟩), fun ⟨ks, h1, e1, z, h2, e2, q⟩ => ⟨ks, z, h2, by
    unfold kvT
    rw [e1]
    show Option.map _ (mv ρ h1) = _
    rw [e2]
    rfl, q⟩⟩
section
variable {κ : Type} {gd : Gd} {g : GM} {mt : BM} {mkv : Rho → Hs → Option ((κ × D) × Hs)} {put : Hs → κ → D → Option Hs} {ρ0 : Rho} {x : D} {xs : List D} {h : Hs} {Q : Hs → Prop}
theorem wDc_nil (hg : gOk gd h) (q : Q h) : wDc gd g mt mkv put ρ0 [] h Q := ⟨h, by unfold dcLoop; rw [if_pos hg], q⟩
theorem wDc_cons (hg : gOk gd h) (w : wG g x ρ0 h (fun ρ1 h1 => wB mt ρ1 h1 (fun b h2 => if b = true then wKV mkv ρ1 h2 (fun k d h3 => optP (put h3 k d) (fun h4 => wDc gd g mt mkv put ρ0 xs h4 Q)) else wDc gd g mt mkv put ρ0 xs h2 Q))) : wDc gd g mt mkv put ρ0 (x :: xs) h Q := by
  obtain ⟨ρ1, h1, e1, b, h2, e2, w⟩ := w
  cases b
  · obtain ⟨h4, e4, q⟩ := w
    exact ⟨h4, by unfold dcLoop; rw [if_pos hg, e1]; show ((mt ρ1 h1).bind _) = _; rw [e2]; exact e4, q⟩
  · obtain ⟨k, d, h3, e3, h4, e4, h5, e5, q⟩ := w
    exact ⟨h5, by unfold dcLoop; rw [if_pos hg, e1]; show ((mt ρ1 h1).bind _) = _; rw [e2]; show ((mkv ρ1 h2).bind _) = _; rw [e3]; show ((put h3 k d).bind _) = _; rw [e4]; exact e5, q⟩
end
/-! ### closures -/
theorem wE_CallV_gl {n : Nat} {V : List ((Str × Nat) × ON)} {L : LamT → Nat → Option ON} {i : Nat} {ma : AM} {ρ : Rho} {h : Hs} {y : Str} {F : ON} (hi : ρ[i]? = some (some (.gl y))) (hV : V.lookup (y, n) = some F) (Q : QE) : wE (mCallV n V L i ma) ρ h Q = wA ma ρ h (fun ds h1 => ds.length = n ∧ wF F ds h1 Q) := by
  show wO (mCallV n V L i ma ρ h) Q = _
  unfold mCallV
  rw [hi]
  dsimp only
  rw [hV]
  dsimp only
  rw [wA_bind]
  congr 1
  funext ds h1
  exact wO_if _ _
theorem wE_CallV_clo {n : Nat} {V : List ((Str × Nat) × ON)} {L : LamT → Nat → Option ON} {i m : Nat} {ma : AM} {ρ : Rho} {h : Hs} {t : LamT} {ws : List D} (hi : ρ[i]? = some (some (.loc m))) (hm : h[m]? = some (.clo t ws)) (Q : QE) : wE (mCallV n V L i ma) ρ h Q = wA ma ρ h (fun ds h1 => ds.length = n ∧ wO (callC n L m ds h1) Q) := by
  show wO (mCallV n V L i ma ρ h) Q = _
  unfold mCallV
  rw [hi]
  dsimp only
  rw [hm]
  dsimp only
  rw [wA_bind]
  congr 1
  funext ds h1
  exact wO_if _ _
theorem wO_callC {n : Nat} {L : LamT → Nat → Option ON} {m : Nat} {ds : List D} {h : Hs} {t : LamT} {ws : List D} {G : ON} (hm : h[m]? = some (.clo t ws)) (hL : L t n = some G) {Q : QE} (w : wF G (ds ++ ws) (h.set m .off) (fun d h1 => h1[m]? = some .off ∧ Q d (h1.set m (.clo t ws)))) : wO (callC n L m ds h) Q := by
  obtain ⟨d, h1, e, e1, q⟩ := w
  refine ⟨d, _, ?_, q⟩
  unfold callC
  rw [hm]
  dsimp only
  rw [hL]
  dsimp only
  rw [e]
  dsimp only [Option.bind_some]
  rw [e1]
theorem wE_inC {n m : Nat} {F : ON} {t : LamT} {js : List Nat} {mas : AM} {ρ : Rho} {h : Hs} {Q : QE} (w : wA mas ρ h (fun ds h1 => ds.length = n ∧ h1[m]? = some .off ∧ optP (wsOf ρ js) (fun ws => wF F ds (h1.set m (.clo t ws)) (fun d h2 => (∃ t' ws', h2[m]? = some (.clo t' ws')) ∧ Q d (h2.set m .dead))))) : wE (inC n F t js mas m) ρ h Q := by
  obtain ⟨ds, h1, e1, hl, ho, ws, ew, d, h2, e2, ⟨t', ws', e3⟩, q⟩ := w
  refine ⟨d, _, ?_, q⟩
  unfold inC
  rw [e1]
  show (if _ then _ else _) = _
  rw [if_pos hl, ho]
  dsimp only
  rw [ew]
  dsimp only [Option.bind_some]
  rw [e2]
  dsimp only [Option.bind_some]
  rw [e3]
theorem wS_Lam {ti : Nat} {p : Str × Option Str} {t : LamT} {i : Nat} {sm : Nat → SM} {mr : SM} {ρ : Rho} {h : Hs} {Q : QS} (ht : isTabAt h ti p t.qual = true) (w : wS (sSeq (sm h.length) mr) (ρ.set i (some (.loc h.length))) (h ++ [.off]) Q) : wS (sLam ti p t i sm mr) ρ h Q := by
  obtain ⟨f, ρ', h', e, q⟩ := w
  exact ⟨f, ρ', h', by unfold sLam; rw [if_pos ht]; exact e, q⟩
@[simp ↓] theorem wS_HandA (m1 : EM) (mi : Nat → EM) (F : ON) (m : Nat) (ρ : Rho) (h : Hs) (Q : QS) : wS (sHandA m1 mi F m) ρ h Q = wE m1 ρ h (fun x h1 => wE (mi m) ρ h1 (fun y h2 => wF F [x, y] h2 (fun _ h3 => Q .nx ρ h3))) := propext ⟨fun ⟨f, ρ', h', e, q⟩ => (by
  obtain ⟨⟨x, h1⟩, e1, e⟩ := bind_some e
  obtain ⟨⟨y, h2⟩, e2, e⟩ := bind_some e
  obtain ⟨⟨z, h3⟩, e3, e⟩ := bind_some e
  cases e
  exact ⟨x, h1, e1, y, h2, e2, z, _, e3, q⟩), fun ⟨x, h1, e1, y, h2, e2, z, h3, e3, q⟩ => ⟨.nx, ρ, h3, by
    unfold sHandA
    rw [e1]
    show ((mi m ρ h1).bind _) = _
    rw [e2]
    show ((F [x, y] h2).bind _) = _
    rw [e3]
    rfl, q⟩⟩
@[simp ↓] theorem wS_HandB (mi : Nat → EM) (j m : Nat) (ρ : Rho) (h : Hs) (Q : QS) : wS (sHandB mi j m) ρ h Q = wE (mi m) ρ h (fun y h2 => Q .nx (ρ.set j (some y)) h2) := propext ⟨fun ⟨f, ρ', h', e, q⟩ => (by
  obtain ⟨⟨x, h1⟩, e1, e⟩ := bind_some e
  cases e
  exact ⟨x, _, e1, q⟩), fun ⟨x, h1, e1, q⟩ => ⟨.nx, _, h1, by
    unfold sHandB
    rw [e1]
    rfl, q⟩⟩
end MP

/-! text Mini19 -/
set_option Elab.async false
set_option linter.all false
set_option maxRecDepth 100000
set_option maxHeartbeats 4000000
/-! a law whose defs make lambdas: its start. -/
namespace MP
open PySem PySem.Spec PyProof.Rows
open L2 hiding St

/-- a list that is told may be told as one that stays -/
def frzSp (n : Nat) (sp : Sp) : Sp := fun vs H Q E => sp vs H Q E ∨ ∃ a xs, H a = some (.lst xs) ∧ vs.length = n ∧ ∀ o, sp vs (upd H a (.frz o (.lst xs))) Q E
theorem law_frz {P : Program} {w : World} {K : PySem.W.Frag} {mg : Str → Option Value} {base : Heap} {k : Nat} {f : Addr} {fd : FuncData} {ps : List Str} {sp : Sp} (Fo : FnOk P w K mg base CX0 k f fd ps sp) : FnOk P w K mg base CX0 k f fd ps (frzSp ps.length sp) := by
  refine ⟨fun vs H Q E h => ?_, fun A outer s H args us vs Q E hr e0 hb r h => ?_⟩
  · rcases h with h | ⟨_, _, _, h, _⟩
    · exact Fo.len _ _ _ _ h
    · exact h
  · rcases h with h | ⟨a, xs, ea, _, h⟩
    · exact Fo.run A outer s H args us vs Q E hr e0 hb r h
    · obtain ⟨z, its, m, rs, ho⟩ := (show ObjOk P w H s.heap a (.lst xs) from e0.hok a _ ea)
      have out : ∀ b u, H b = some u → u ≠ .lst xs → upd H a (.frz { cls := .type "list", data := .seq its.toArray m } (.lst xs)) b = some u := fun b u e n => by
        rw [upd_ne]
        · exact e
        · rintro rfl
          rw [ea] at e
          cases e
          exact n rfl
      have hok1 : HOk P w (upd H a (.frz { cls := .type "list", data := .seq its.toArray m } (.lst xs))) s.heap := fun b u e => by
        by_cases hba : b = a
        · subst hba
          rw [upd_same] at e
          cases e
          exact ⟨ho, z, its, m, rs, ho⟩
        · rw [upd_ne hba] at e
          exact (e0.hok b u e).stay (fun c v _ q => q) (fun c q => out c _ q fun w => nomatch w) fun c ys q => out c _ q fun w => nomatch w
      have dn : ∀ b, H b = none → upd H a (.frz { cls := .type "list", data := .seq its.toArray m } (.lst xs)) b = none := fun b e => by
        rw [upd_ne]
        · exact e
        · rintro rfl
          rw [ea] at e
          cases e
      refine codeAny_mono (Fo.run A outer s _ args us vs Q E hr (Env0.sel e0 hok1 (fun b o _ q => dn b q) fun b _ q => dn b q) hb r (h _)) fun r s' hq => ?_
      cases r with
      | error e => exact False.elim hq
      | ok fl =>
        cases fl with
        | ret u =>
          obtain ⟨v, H', os, bare, un, hok, rv, q⟩ := hq
          exact ⟨v, H', os, bare, ⟨fun b o q n hf hx => un.keep b o q (dn b n) hf hx, fun b o q n hf hx => un.slot b o q (dn b n) hf hx, fun b o q n hx => un.free b o q (dn b n) hx, un.there,
            fun b ys q => un.tups b ys (out b _ q fun w => nomatch w), fun b o u q => un.frzs b o u (out b _ q fun w => nomatch w), fun b pp q => un.tbls b pp (out b _ q fun w => nomatch w)⟩, hok, rv, q⟩
        | next => exact False.elim hq
        | brk => exact False.elim hq
        | cont => exact False.elim hq
/-- the script and the tables -/
def start0 (ns : List Int) (ts : List ((Str × Option Str) × Str)) : Hs := .frz ns :: ts.map fun p => .tab p.1 p.2
theorem start_rel {K : PySem.W.Frag} {H : Hp} {a : Addr} {ns : List Int} {ts : List ((Str × Option Str) × Str)} (hS : (∃ o, H a = some (.frz o (.lst (ns.map V.int)))) ∨ KLs K a (ns.map V.int)) (hT : ∀ p ∈ ts, H (He.cT K p.1).2 = some (.tbl #[])) (hn : (ts.map fun p => (He.cT K p.1).2).Nodup) :
    Rel K (a :: ts.map fun p => (He.cT K p.1).2) (start0 ns ts) H := by
  refine ⟨by simp [start0], fun i j b o o' h1 h2 h3 h4 f1 f2 => ?_, fun i b o h1 h3 => ?_⟩
  · cases i with
    | zero => cases h3; cases f1
    | succ i =>
      cases j with
      | zero => cases h4; cases f2
      | succ j =>
        have h1 : (ts.map fun p => (He.cT K p.1).2)[i]? = some b := h1
        have h2 : (ts.map fun p => (He.cT K p.1).2)[j]? = some b := h2
        obtain ⟨l1, e1⟩ := List.getElem?_eq_some_iff.mp h1
        obtain ⟨l2, e2⟩ := List.getElem?_eq_some_iff.mp h2
        exact congrArg Nat.succ ((List.getElem_inj hn).mp (e1.trans e2.symm))
  · cases i with
    | zero => cases h1; cases h3; exact hS
    | succ i =>
      have h1 : (ts.map fun p => (He.cT K p.1).2)[i]? = some b := h1
      have h3 : (ts.map fun p => AO.tab p.1 p.2)[i]? = some o := h3
      rw [List.getElem?_map] at h1 h3
      cases q : ts[i]? with
      | none => rw [q] at h1; cases h1
      | some p =>
        rw [q] at h1 h3
        cases h1
        cases h3
        exact ⟨rfl, LamX.TabS.nil (hT p (List.mem_of_getElem? q))⟩
theorem law_spT {K : PySem.W.Frag} {F : ON} {ts : List ((Str × Option Str) × Str)} (hF : ∀ ns : List Int, ∃ h', F [.loc 0] (start0 ns ts) = some (.bl true, h')) (H : Hp) (a : Addr) (ns : List Int) (hT : ∀ p ∈ ts, H (He.cT K p.1).2 = some (.tbl #[])) (hn : (ts.map fun p => (He.cT K p.1).2).Nodup)
    (hS : SqL K H a (ns.map V.int)) {E : XK} : frzSp 1 (spF K 1 F) [.ref a] H (fun v _ => v = .bl true) E := by
  obtain ⟨h', e⟩ := hF ns
  have go : ∀ H : Hp, ((∃ o, H a = some (.frz o (.lst (ns.map V.int)))) ∨ KLs K a (ns.map V.int)) → (∀ p ∈ ts, H (He.cT K p.1).2 = some (.tbl #[])) → spF K 1 F [.ref a] H (fun v _ => v = .bl true) E := fun H h1 h2 =>
    ⟨rfl, _, _, [.loc 0], _, _, start_rel h1 h2 hn, .cons (.loc rfl) .nil, e, fun μ' H' v _ _ r => by cases r; rfl⟩
  rcases hS with (z | z) | z
  · refine .inr ⟨a, _, z, rfl, fun o => go _ (.inl ⟨o, upd_same⟩) fun p hp => ?_⟩
    rw [upd_ne]
    · exact hT p hp
    · intro w
      have := hT p hp
      rw [w, z] at this
      cases this
  · exact .inl (go H (.inl z) hT)
  · exact .inl (go H (.inr z) hT)
end MP

/-! text Mini20 -/
set_option Elab.async false
set_option linter.all false
set_option maxRecDepth 100000
set_option maxHeartbeats 4000000
/-! small tables. -/
namespace MP
open PySem PySem.Spec PyProof.Rows
open L2 hiding St
open Classical in
/-- one lambda's body -/
noncomputable def oneL (t : LamT) (n : Nat) (G : ON) : LamT → Nat → Option ON := fun t' m => if t' = t ∧ m = n then some G else none
def noL : LamT → Nat → Option ON := fun _ _ => none
theorem oneL_self (t : LamT) (n : Nat) (G : ON) : oneL t n G t n = some G := if_pos ⟨rfl, rfl⟩
section
variable {P : Program} {w : World} {K : PySem.W.Frag} {mg : Str → Option Value} {base : Heap} {k n : Nat} {y : Str} {F G : ON} {t : LamT}
theorem meV (h : TV P w K mg base k y n F) : MeOk P w K mg base k ({ V := [((y, n), F)], L := noL } : CtE) := { MeOk.none with
  V := fun y' m F' e => by
    by_cases q : (y', m) = (y, n)
    · cases q
      rw [show List.lookup (y, n) [((y, n), F)] = some F from List.lookup_cons_self] at e
      cases e
      exact h
    · rw [show List.lookup (y', m) [((y, n), F)] = _ from List.lookup_cons, beq_eq_false_iff_ne.mpr q] at e
      cases e }
theorem meL (h : CloOk P w K mg base k t n G) : MeOk P w K mg base k ({ V := [], L := oneL t n G } : CtE) := { MeOk.none with
  L := fun t' m G' e => by
    have e : oneL t n G t' m = some G' := e
    by_cases q : t' = t ∧ m = n
    · obtain ⟨rfl, rfl⟩ := q
      rw [oneL_self] at e
      cases e
      exact h
    · rw [show oneL t n G t' m = none from if_neg q] at e
      cases e }
theorem meLam {li : LamI} (h : LamX.TabB base mg (He.cT K li.own).1 (He.cT K li.own).2) : MeOk P w K mg base k ({ lam := some li } : CtE) := { MeOk.none with
  lam := fun li' e => by cases e; exact h }
theorem meDk : MeOk P w K mg base k ({ dk := true } : CtE) := { MeOk.none with }
theorem meAt {at_ : Ats} {dk : Bool} (h : AtsOk K at_) : MeOk P w K mg base k ({ at_ := at_, dk := dk } : CtE) := { MeOk.none with at_ := h }
theorem meMkk {x : Str} {ks : List Str} {as : List ASrc} (h : TMkK P w K mg base k x n ks as F) : MeOk P w K mg base k ({ mkk := [((x, n, ks), (as, F))] } : CtE) := { MeOk.none with
  mkk := fun x' n' ks' as' F' e => by
    by_cases q : (x', n', ks') = (x, n, ks)
    · cases q
      rw [show List.lookup (x, n, ks) [((x, n, ks), (as, F))] = some (as, F) from List.lookup_cons_self] at e
      cases e
      exact h
    · rw [show List.lookup (x', n', ks') [((x, n, ks), (as, F))] = _ from List.lookup_cons, beq_eq_false_iff_ne.mpr q] at e
      cases e }
end
end MP

/-! text DF_k38 -/
set_option Elab.async false
set_option linter.all false
set_option maxRecDepth 100000
set_option maxHeartbeats 0
namespace MP
open PySem PySem.Spec PyProof.Rows
open L2 hiding St
def c_LETTERS : D := (.str "abcdefghijklmnopqrstuvwxyz")
def c_LONGEST : D := (.int 8)
def c_MOST_CHANGE : D := (.int 3)
def c_MOST_FAULTS : D := (.int 3)
def c_MOST_KINDS : D := (.int 4)
def c_MOST_LEAD : D := (.int 30)
def c_MOST_LIFE : D := (.int 6)
def c_MOST_ORDERS : D := (.int 5)
def c_MOST_PERIOD : D := (.int 8)
def c_MOST_REPAIR : D := (.int 4)
def c_MOST_ROOM : D := (.int 4)
def c_MOST_SETUP : D := (.int 3)
def c_MOST_SETUPS : D := (.int 20)
def c_MOST_SPOILS : D := (.int 2)
def c_MOST_STATIONS : D := (.int 4)
def c_MOST_STEPS : D := (.int 5)
def c_MOST_WINDOW : D := (.int 8)
def c_MOST_WORK : D := (.int 4)
def c_is_station_row : D := (.gl "is_station_row")
def atL : Ats := [("Plan", "stations"), ("Plan", "kinds"), ("Plan", "period"), ("Plan", "orders"), ("Plan", "setups"), ("Plan", "faults"), ("Plan", "spoils"), ("Plan", "spots"), ("Plan", "routes"), ("Plan", "table")]
noncomputable def S_require_part : SM :=
  (sSeq (sIf (bBool (mOp2 isNotO (mVar 1) (mC .non)))
    (sSeq sNo
    sNext)
    sNext)
  sNext)
noncomputable def F_require_part : ON := runF (S_require_part) 2
noncomputable def S_first_wrong (V : List ((Str × Nat) × ON)) (L : LamT → Nat → Option ON) : SM :=
  (sSeq (sIf (bOr (bNot (bTru (mCallN isinstN (aCons (mVar 0) (aCons (mC (.ty "tuple")) aNil))))) (bNot (bBool (mChain leO leO (mVar 1) (mCallN lenN (aCons (mVar 0) aNil)) (mVar 2)))))
    (sSeq (sRet (mOp1 negO (mC (.int 1))))
    sNext)
    sNext)
  (sSeq (sFor (iEnum (mVar 0)) (gTupM 2 (gsCons (gVar 4) (gsCons (gVar 5) gsNil)))
    (sSeq (sIf (bNot (bTru (mCallV 2 V L 3 (aCons (mVar 5) (aCons (mSl (mVar 0) pNo (pInt (mVar 4))) aNil)))))
      (sSeq (sRet (mVar 4))
      sNext)
      sNext)
    sNext))
  (sSeq (sRet (mC .non))
  sNext)))
noncomputable def F_first_wrong (V : List ((Str × Nat) × ON)) (L : LamT → Nat → Option ON) : ON := runF (S_first_wrong V L) 6
noncomputable def S_is_new : SM :=
  (sSeq (sRet (mOp2 notInO (mVar 0) (mLc (iSeq (mVar 1)) (gVar 2) bYes (mOp2 ixO (mVar 2) (mC (.int 0))) [2])))
  sNext)
noncomputable def F_is_new : ON := runF (S_is_new) 3
noncomputable def S_is_name : SM :=
  (sSeq (sIf (bOr (bNot (bTru (mCallN isinstN (aCons (mVar 0) (aCons (mC (.ty "str")) aNil))))) (bNot (bBool (mChain leO leO (mC (.int 1)) (mCallN lenN (aCons (mVar 0) aNil)) (mC c_LONGEST)))))
    (sSeq (sRet (mC (.bl false)))
    sNext)
    sNext)
  (sSeq (sRet (mCallN allN (aCons (mLc (iSeq (mVar 0)) (gVar 1) bYes (mOp2 inO (mVar 1) (mC c_LETTERS)) [1]) aNil)))
  sNext))
noncomputable def F_is_name : ON := runF (S_is_name) 2
noncomputable def S_is_station_row : SM :=
  (sSeq (sIf (bOr (bNot (bTru (mCallF 2 F_is_row (aCons (mVar 0) (aCons (mC (.int 5)) aNil))))) (bOr (bNot (bTru (mCallF 1 F_is_name (aCons (mOp2 ixO (mVar 0) (mC (.int 0))) aNil)))) (bNot (bTru (mCallF 2 F_is_new (aCons (mOp2 ixO (mVar 0) (mC (.int 0))) (aCons (mVar 1) aNil)))))))
    (sSeq (sRet (mC (.bl false)))
    sNext)
    sNext)
  (sSeq (sSet (mVar 0) (gTupM 5 (gsCons (gVar 2) (gsCons (gVar 3) (gsCons (gVar 4) (gsCons (gVar 5) (gsCons (gVar 6) gsNil)))))))
  (sSeq (sIf (bOr (bNot (bTru (mCallF 3 F_is_within (aCons (mVar 3) (aCons (mC (.int 1)) (aCons (mC c_MOST_ROOM) aNil)))))) (bNot (bTru (mCallF 3 F_is_within (aCons (mVar 4) (aCons (mC (.int 0)) (aCons (mC c_MOST_LIFE) aNil)))))))
    (sSeq (sRet (mC (.bl false)))
    sNext)
    sNext)
  (sSeq (sIf (bOr (bNot (bTru (mCallF 3 F_is_within (aCons (mVar 5) (aCons (mC (.int 0)) (aCons (mC c_MOST_CHANGE) aNil)))))) (bNot (bTru (mCallF 3 F_is_within (aCons (mVar 6) (aCons (mC (.int 1)) (aCons (mC c_MOST_REPAIR) aNil)))))))
    (sSeq (sRet (mC (.bl false)))
    sNext)
    sNext)
  (sSeq (sRet (mOrV (mOp2 gtO (mVar 4) (mC (.int 0))) (mOp2 eqO (mVar 5) (mC (.int 0)))))
  sNext)))))
noncomputable def F_is_station_row : ON := runF (S_is_station_row) 7
noncomputable def S_require_stations : SM :=
  (sSeq (sExpr (mCallF 2 F_require_part (aCons (mC (.str "stations")) (aCons (mCallF 4 (F_first_wrong [(("is_station_row", 2), F_is_station_row)] noL) (aCons (mVar 0) (aCons (mC (.int 1)) (aCons (mC c_MOST_STATIONS) (aCons (mC c_is_station_row) aNil))))) aNil))))
  sNext)
noncomputable def F_require_stations : ON := runF (S_require_stations) 1
noncomputable def S_is_step : SM :=
  (sSeq (sIf (bOr (bNot (bTru (mCallF 2 F_is_row (aCons (mVar 0) (aCons (mC (.int 3)) aNil))))) (bOr (bNot (bTru (mCallF 1 F_is_name (aCons (mOp2 ixD (mVar 0) (mC (.int 0))) aNil)))) (bBool (mOp2 notInDk (mOp2 ixD (mVar 0) (mC (.int 0))) (mVar 2)))))
    (sSeq (sRet (mC (.bl false)))
    sNext)
    sNext)
  (sSeq (sSet (mVar 0) (gTupM 3 (gsCons (gVar 3) (gsCons (gVar 4) (gsCons (gVar 5) gsNil)))))
  (sSeq (sIf (bOr (bNot (bTru (mCallF 3 F_is_within (aCons (mVar 4) (aCons (mC (.int 1)) (aCons (mC c_MOST_WORK) aNil)))))) (bBool (mChain ltO ltO (mC (.int 0)) (mOp2 ixD (mVar 2) (mVar 3)) (mVar 4))))
    (sSeq (sRet (mC (.bl false)))
    sNext)
    sNext)
  (sSeq (sRet (mOrV (mOp2 isO (mVar 5) (mC .non)) (mCallF 3 F_is_within (aCons (mVar 5) (aCons (mC (.int 0)) (aCons (mVar 1) aNil))))))
  sNext))))
noncomputable def F_is_step : ON := runF (S_is_step) 6
noncomputable def S_is_kind_row : SM :=
  (sSeq (sIf (bOr (bNot (bTru (mCallF 2 F_is_row (aCons (mVar 0) (aCons (mC (.int 2)) aNil))))) (bOr (bNot (bTru (mCallF 1 F_is_name (aCons (mOp2 ixO (mVar 0) (mC (.int 0))) aNil)))) (bNot (bTru (mCallF 2 F_is_new (aCons (mOp2 ixO (mVar 0) (mC (.int 0))) (aCons (mVar 1) aNil)))))))
    (sSeq (sRet (mC (.bl false)))
    sNext)
    sNext)
  (sSeq (sSet (mOp2 ixO (mVar 0) (mC (.int 1))) (gVar 3))
  (sSeq (sIf (bOr (bNot (bTru (mCallN isinstN (aCons (mVar 3) (aCons (mC (.ty "tuple")) aNil))))) (bNot (bBool (mChain leO leO (mC (.int 1)) (mCallN lenN (aCons (mVar 3) aNil)) (mC c_MOST_STEPS)))))
    (sSeq (sRet (mC (.bl false)))
    sNext)
    sNext)
  (sSeq (sRet (mCallN allN (aCons (mLc (iEnum (mVar 3)) (gTupM 2 (gsCons (gVar 4) (gsCons (gVar 5) gsNil))) bYes (mCallF 3 F_is_step (aCons (mVar 5) (aCons (mVar 4) (aCons (mVar 2) aNil)))) [4, 5]) aNil)))
  sNext))))
noncomputable def F_is_kind_row : ON := runF (S_is_kind_row) 6
noncomputable def G_require_kinds : ON := fun ds h => (mCallF 3 F_is_kind_row (aCons (mVar 0) (aCons (mVar 1) (aCons (mVar 2) aNil)))) (ds.map some ++ List.replicate (3 - ds.length) none) h
noncomputable def S_require_kinds (l : Nat → LamT) : SM :=
  (sLam 1 ("require_kinds", none) (l 0) 2 (sHandA (mC (.str "kinds")) (inC 4 (F_first_wrong [] (oneL (l 0) 2 (G_require_kinds))) (l 0) [1] (aCons (mVar 0) (aCons (mC (.int 1)) (aCons (mC c_MOST_KINDS) (aCons (mVar 2) aNil))))) F_require_part)
  sNext)
noncomputable def F_require_kinds (l : Nat → LamT) : ON := runF (S_require_kinds l) 3
noncomputable def S_is_order_row : SM :=
  (sSeq (sIf (bOr (bNot (bTru (mCallF 2 F_is_row (aCons (mVar 0) (aCons (mC (.int 3)) aNil))))) (bNot (bTru (mCallF 3 F_is_within (aCons (mOp2 ixO (mVar 0) (mC (.int 0))) (aCons (mC (.int 0)) (aCons (mOp2 subD (mVar 2) (mC (.int 1))) aNil)))))))
    (sSeq (sRet (mC (.bl false)))
    sNext)
    sNext)
  (sSeq (sRet (mAndV (mCallF 1 F_is_name (aCons (mOp2 ixO (mVar 0) (mC (.int 1))) aNil)) (mAndV (mOp2 inO (mOp2 ixO (mVar 0) (mC (.int 1))) (mVar 1)) (mCallF 3 F_is_within (aCons (mOp2 ixO (mVar 0) (mC (.int 2))) (aCons (mC (.int 1)) (aCons (mC c_MOST_LEAD) aNil)))))))
  sNext))
noncomputable def F_is_order_row : ON := runF (S_is_order_row) 3
noncomputable def G_require_orders : ON := fun ds h => (mCallF 3 F_is_order_row (aCons (mVar 0) (aCons (mVar 2) (aCons (mVar 3) aNil)))) (ds.map some ++ List.replicate (4 - ds.length) none) h
noncomputable def S_require_orders (l : Nat → LamT) : SM :=
  (sLam 2 ("require_orders", none) (l 1) 3 (sHandA (mC (.str "orders")) (inC 4 (F_first_wrong [] (oneL (l 1) 2 (G_require_orders))) (l 1) [1, 2] (aCons (mVar 0) (aCons (mC (.int 0)) (aCons (mC c_MOST_ORDERS) (aCons (mVar 3) aNil))))) F_require_part)
  sNext)
noncomputable def F_require_orders (l : Nat → LamT) : ON := runF (S_require_orders l) 4
noncomputable def S_is_setup_row : SM :=
  (sSeq (sIf (bOr (bNot (bTru (mCallF 2 F_is_row (aCons (mVar 0) (aCons (mC (.int 4)) aNil))))) (bNot (bTru (mCallN allN (aCons (mLc (iSeq (mSl (mVar 0) pNo (pInt (mC (.int 3))))) (gVar 4) bYes (mCallF 1 F_is_name (aCons (mVar 4) aNil)) [4]) aNil)))))
    (sSeq (sRet (mC (.bl false)))
    sNext)
    sNext)
  (sSeq (sIf (bOr (bBool (mOp2 notInDk (mOp2 ixD (mVar 0) (mC (.int 0))) (mVar 2))) (bOr (bBool (mOp2 notInDk (mOp2 ixD (mVar 0) (mC (.int 1))) (mVar 3))) (bOr (bBool (mOp2 notInDk (mOp2 ixD (mVar 0) (mC (.int 2))) (mVar 3))) (bBool (mOp2 eqO (mOp2 ixD (mVar 0) (mC (.int 1))) (mOp2 ixD (mVar 0) (mC (.int 2))))))))
    (sSeq (sRet (mC (.bl false)))
    sNext)
    sNext)
  (sSeq (sIf (bAnd (bBool (mOp2 gtO (mCallN lenN (aCons (mVar 1) aNil)) (mC (.int 0)))) (bNot (bBool (mOp2 ltDk (mSl (mOp2 ixD (mVar 1) (mOp1 negO (mC (.int 1)))) pNo (pInt (mC (.int 3)))) (mSl (mVar 0) pNo (pInt (mC (.int 3))))))))
    (sSeq (sRet (mC (.bl false)))
    sNext)
    sNext)
  (sSeq (sRet (mCallF 3 F_is_within (aCons (mOp2 ixD (mVar 0) (mC (.int 3))) (aCons (mC (.int 1)) (aCons (mC c_MOST_SETUP) aNil)))))
  sNext))))
noncomputable def F_is_setup_row : ON := runF (S_is_setup_row) 5
noncomputable def G_require_setups : ON := fun ds h => (mCallF 4 F_is_setup_row (aCons (mVar 0) (aCons (mVar 1) (aCons (mVar 3) (aCons (mVar 2) aNil))))) (ds.map some ++ List.replicate (4 - ds.length) none) h
noncomputable def S_require_setups (l : Nat → LamT) : SM :=
  (sLam 3 ("require_setups", none) (l 2) 3 (sHandA (mC (.str "setups")) (inC 4 (F_first_wrong [] (oneL (l 2) 2 (G_require_setups))) (l 2) [2, 1] (aCons (mVar 0) (aCons (mC (.int 0)) (aCons (mC c_MOST_SETUPS) (aCons (mVar 3) aNil))))) F_require_part)
  sNext)
noncomputable def F_require_setups (l : Nat → LamT) : ON := runF (S_require_setups l) 4
noncomputable def S_is_bound : SM :=
  (sSeq (sRet (mAndV (mCallF 2 F_is_row (aCons (mVar 0) (aCons (mC (.int 2)) aNil))) (mAndV (mCallF 3 F_is_within (aCons (mOp2 ixO (mVar 0) (mC (.int 0))) (aCons (mC (.int 0)) (aCons (mC c_MOST_FAULTS) aNil)))) (mCallF 3 F_is_within (aCons (mOp2 ixO (mVar 0) (mC (.int 1))) (aCons (mC (.int 1)) (aCons (mC c_MOST_WINDOW) aNil)))))))
  sNext)
noncomputable def F_is_bound : ON := runF (S_is_bound) 1
noncomputable def SPlan___init__ (l : Nat → LamT) : SM :=
  (sSeq (sExpr (mCallF 1 F_require_stations (aCons (mVar 1) aNil)))
  (sSeq (sSet (mDc (iSeq (mVar 1)) (gVar 10) bYes (mOp2 ixO (mVar 10) (mC (.int 0))) (mOp2 ixO (mVar 10) (mC (.int 2))) [10]) (gVar 8))
  (sSeq (sExpr (mCallF 2 (F_require_kinds l) (aCons (mVar 2) (aCons (mVar 8) aNil))))
  (sSeq (sSet (mLc (iSeq (mVar 2)) (gVar 10) bYes (mOp2 ixO (mVar 10) (mC (.int 0))) [10]) (gVar 9))
  (sSeq (sIf (bNot (bTru (mCallF 3 F_is_within (aCons (mVar 3) (aCons (mC (.int 1)) (aCons (mC c_MOST_PERIOD) aNil))))))
    (sSeq sNo
    sNext)
    sNext)
  (sSeq (sExpr (mCallF 3 (F_require_orders l) (aCons (mVar 4) (aCons (mVar 9) (aCons (mVar 3) aNil)))))
  (sSeq (sExpr (mCallF 3 (F_require_setups l) (aCons (mVar 5) (aCons (mVar 8) (aCons (mVar 9) aNil)))))
  (sSeq (sIf (bNot (bTru (mCallF 1 F_is_bound (aCons (mVar 6) aNil))))
    (sSeq sNo
    sNext)
    sNext)
  (sSeq (sIf (bNot (bTru (mCallF 3 F_is_within (aCons (mVar 7) (aCons (mC (.int 0)) (aCons (mC c_MOST_SPOILS) aNil))))))
    (sSeq sNo
    sNext)
    sNext)
  (sSeq (sFldS atL "stations" (mVar 0) (mVar 1))
  (sSeq (sFldS atL "kinds" (mVar 0) (mVar 2))
  (sSeq (sFldS atL "period" (mVar 0) (mVar 3))
  (sSeq (sFldS atL "orders" (mVar 0) (mVar 4))
  (sSeq (sFldS atL "setups" (mVar 0) (mVar 5))
  (sSeq (sFldS atL "faults" (mVar 0) (mVar 6))
  (sSeq (sFldS atL "spoils" (mVar 0) (mVar 7))
  (sSeq (sFldS atL "spots" (mVar 0) (mDc (iEnum (mVar 1)) (gTupM 2 (gsCons (gVar 11) (gsCons (gVar 10) gsNil))) bYes (mOp2 ixO (mVar 10) (mC (.int 0))) (mVar 11) [11, 10]))
  (sSeq (sFldS atL "routes" (mVar 0) (mDc (iSeq (mVar 2)) (gVar 10) bYes (mOp2 ixO (mVar 10) (mC (.int 0))) (mOp2 ixO (mVar 10) (mC (.int 1))) [10]))
  (sSeq (sFldS atL "table" (mVar 0) (mDcT (iSeq (mVar 5)) (gVar 10) bYes (kSl (mVar 10) pNo (pInt (mC (.int 3)))) (mOp2 ixO (mVar 10) (mC (.int 3))) [10]))
  sNext)))))))))))))))))))
noncomputable def FPlan___init__ (l : Nat → LamT) : ON := runF (SPlan___init__ l) 12
noncomputable def S_law_made (l : Nat → LamT) : SM :=
  (sSeq (sRet (mMakeK 4 3 "Plan" ((List.range 4).map ASrc.pos ++ (List.range 3).map ASrc.kw) (FPlan___init__ l) (aCons (mOp2 ixO (mVar 0) (mC (.int 0))) (aCons (mOp2 ixO (mVar 0) (mC (.int 1))) (aCons (mOp2 ixO (mVar 0) (mC (.int 2))) (aCons (mOp2 ixO (mVar 0) (mC (.int 3))) aNil)))) (aCons (mOp2 ixO (mVar 0) (mC (.int 4))) (aCons (mOp2 ixO (mVar 0) (mC (.int 5))) (aCons (mOp2 ixO (mVar 0) (mC (.int 6))) aNil)))))
  sNext)
noncomputable def F_law_made (l : Nat → LamT) : ON := runF (S_law_made l) 1
noncomputable def S_strikes_in : SM :=
  (sSeq (sRet (mCallN lenN (aCons (mLc (iSeq (mVar 0)) (gVar 1) (bBool (mOp2 neO (mVar 1) (mC (.str "-")))) (mVar 1) [1]) aNil)))
  sNext)
noncomputable def F_strikes_in : ON := runF (S_strikes_in) 2
noncomputable def S_is_within_bound : SM :=
  (sSeq (sSet (mFld atL "faults" (mVar 0)) (gTupM 2 (gsCons (gVar 3) (gsCons (gVar 4) gsNil))))
  (sSeq (sFor (iRange2 (mC (.int 1)) (mOp2 addD (mCallN lenN (aCons (mVar 1) aNil)) (mC (.int 1)))) (gVar 2)
    (sSeq (sIf (bBool (mOp2 gtO (mCallF 1 F_strikes_in (aCons (mSl (mVar 1) (pInt (mCallN max2N (aCons (mC (.int 0)) (aCons (mOp2 subD (mVar 2) (mVar 4)) aNil)))) (pInt (mVar 2))) aNil)) (mVar 3)))
      (sSeq (sRet (mC (.bl false)))
      sNext)
      sNext)
    sNext))
  (sSeq (sRet (mC (.bl true)))
  sNext)))
noncomputable def F_is_within_bound : ON := runF (S_is_within_bound) 5
noncomputable def S_law_k38 (l : Nat → LamT) : SM :=
  (sSeq (sSet (mLst (aCons (mVar 0) (aCons (mC (.int 0)) (aCons (mC (.int 7381)) (aCons (mC (.int 0)) aNil))))) (gVar 1))
  (sSeq (sFor (iRange1 (mC (.int 4))) (gVar 2)
    (sSeq (sSet (mOp2 ixO (mCallF 1 F_law_lines (aCons (mVar 1) aNil)) (mC (.int 0))) (gVar 3))
    (sSeq (sSet (mCallF 1 (F_law_made l) (aCons (mVar 3) aNil)) (gVar 4))
    (sSeq (sSet (mOp2 ixO (mCallF 3 F_law_walk (aCons (mVar 1) (aCons (mVar 3) (aCons (mCallF 2 F_law_pick (aCons (mVar 1) (aCons (mLst (aCons (mC (.int 4)) (aCons (mC (.int 12)) (aCons (mC (.int 20)) aNil)))) aNil))) aNil)))) (mC (.int 0))) (gVar 5))
    (sSeq (sIf (bBool (mOp2 isNotO (mCallF 2 F_is_within_bound (aCons (mVar 4) (aCons (mVar 5) aNil))) (mC (.bl true))))
      (sSeq (sRet (mC (.bl false)))
      sNext)
      sNext)
    (sSeq (sSet (mLc (iSeq (mOp2 ixO (mVar 3) (mC (.int 0)))) (gVar 12) bYes (mOp2 ixO (mVar 12) (mC (.int 0))) [12]) (gVar 6))
    (sSeq (sSet (mCallN tupleN (aCons (mLc (iRange1 (mCallF 2 F_law_taken (aCons (mVar 1) (aCons (mC (.int 25)) aNil)))) (gVar 14) bYes (mCallF 2 F_law_pick (aCons (mVar 1) (aCons (mOp2 addD (mOp2 addD (mLst (aCons (mC (.str "-")) (aCons (mC (.str "-")) (aCons (mC (.str "-")) aNil)))) (mVar 6)) (mLst (aCons (mOp2 addD (mOp2 ixO (mVar 6) (mC (.int 0))) (mC (.str "!"))) (aCons (mC (.str "x-")) aNil)))) aNil))) [14]) aNil)) (gVar 7))
    (sSeq (sSet (mLc (iSeq (mVar 7)) (gVar 13) bYes (mCallN intN (aCons (mOp2 neO (mVar 13) (mC (.str "-"))) aNil)) [13]) (gVar 8))
    (sSeq (sIf (bOr (bNot (bTru (mCallF 2 F_law_alike (aCons (mCallF 1 F_strikes_in (aCons (mVar 7) aNil)) (aCons (mCallN sumN (aCons (mVar 8) aNil)) aNil))))) (bNot (bTru (mCallF 2 F_law_alike (aCons (mCallF 1 F_strikes_in (aCons (mVar 5) aNil)) (aCons (mCallN lenN (aCons (mLc (iSeq (mVar 5)) (gVar 13) (bBool (mOp2 neO (mVar 13) (mC (.str "-")))) (mVar 13) [13]) aNil)) aNil))))))
      (sSeq (sRet (mC (.bl false)))
      sNext)
      sNext)
    (sSeq (sSet (mOp2 ixO (mVar 3) (mC (.int 5))) (gTupM 2 (gsCons (gVar 10) (gsCons (gVar 11) gsNil))))
    (sSeq (sSet (mOp2 eqO (mLc (iRange1 (mCallN lenN (aCons (mVar 7) aNil))) (gVar 14) (bBool (mOp2 gtO (mCallN sumN (aCons (mSl (mVar 8) (pInt (mVar 14)) (pInt (mOp2 addD (mVar 14) (mVar 11)))) aNil)) (mVar 10))) (mVar 14) [14]) (mLst aNil)) (gVar 9))
    (sSeq (sIf (bNot (bTru (mCallF 2 F_law_alike (aCons (mCallF 2 F_is_within_bound (aCons (mVar 4) (aCons (mVar 7) aNil))) (aCons (mVar 9) aNil)))))
      (sSeq (sRet (mC (.bl false)))
      sNext)
      sNext)
    sNext))))))))))))
  (sSeq (sRet (mC (.bl true)))
  sNext)))
noncomputable def F_law_k38 (l : Nat → LamT) : ON := runF (S_law_k38 l) 15
end MP

/-! text LW_k38 -/
set_option Elab.async false
set_option linter.all false
set_option maxRecDepth 100000
set_option maxHeartbeats 0
namespace MP
open PySem PySem.Spec PyProof.Rows
open L2 hiding St
def topS (i : Nat) : Stmt := PySem.Challenge.pw_linesure_k38_strikes_within_the_bound.main.body.getD i (.Pass ⟨0, 0, 0, 0⟩)
def clsS (i j : Nat) : Stmt := match topS i with
  | .ClassDef _ _ _ body _ _ _ _ _ _ _ => body.getD j (.Pass ⟨0, 0, 0, 0⟩)
  | s => s
def liOf (x : Str) (i : Nat) : LamI := ⟨x ++ ".<locals>.", (x, none), i⟩
def lamS (x : Str) (i j k : Nat) : LamT := match (defBody (topS i)).getD j (.Pass ⟨0, 0, 0, 0⟩) with
  | .Assign _ (.Lambda params body scope _) _ => lamOf (liOf x k) params body scope
  | _ => ⟨(x, none), "", ⟨[], [], none, [], [], none, []⟩, .Constant .none 0 ⟨0, 0, 0, 0⟩, defScope (topS i), [], []⟩
def lamsL : Nat → LamT
  | 0 => lamS "require_kinds" 46 0 1
  | 1 => lamS "require_orders" 47 0 2
  | 2 => lamS "require_setups" 48 0 3
  | _ => lamS "require_kinds" 46 0 1
def cC : List (Str × D) := [("LETTERS", c_LETTERS), ("LONGEST", c_LONGEST), ("MOST_CHANGE", c_MOST_CHANGE), ("MOST_FAULTS", c_MOST_FAULTS), ("MOST_KINDS", c_MOST_KINDS), ("MOST_LEAD", c_MOST_LEAD), ("MOST_LIFE", c_MOST_LIFE), ("MOST_ORDERS", c_MOST_ORDERS), ("MOST_PERIOD", c_MOST_PERIOD), ("MOST_REPAIR", c_MOST_REPAIR), ("MOST_ROOM", c_MOST_ROOM), ("MOST_SETUP", c_MOST_SETUP), ("MOST_SETUPS", c_MOST_SETUPS), ("MOST_SPOILS", c_MOST_SPOILS), ("MOST_STATIONS", c_MOST_STATIONS), ("MOST_STEPS", c_MOST_STEPS), ("MOST_WINDOW", c_MOST_WINDOW), ("MOST_WORK", c_MOST_WORK), ("is_station_row", c_is_station_row)]
def cB : List Str := ["all", "bool", "enumerate", "int", "isinstance", "len", "list", "max", "min", "range", "sorted", "str", "sum", "tuple"]
def N_law_taken : List Str := ["row", "many", "cell", "found"]
noncomputable def T_law_taken : List ((Str × Nat) × ON) := []
theorem eq_law_taken : defM 40 N_law_taken cC cB (T_law_taken) (topS 51) = S_law_taken := by
  kernel_rfl
def N_law_names : List Str := ["row", "many", "letters", "head", "tail", "kind", "k", "start", "names", "sign"]
noncomputable def T_law_names : List ((Str × Nat) × ON) := [(("_law_taken", 2), F_law_taken)]
theorem eq_law_names : defM 40 N_law_names cC cB (T_law_names) (topS 54) = S_law_names := by
  kernel_rfl
def N_law_pick : List Str := ["row", "things"]
noncomputable def T_law_pick : List ((Str × Nat) × ON) := [(("_law_taken", 2), F_law_taken)]
theorem eq_law_pick : defM 40 N_law_pick cC cB (T_law_pick) (topS 52) = S_law_pick := by
  kernel_rfl
def N_law_station : List Str := ["row", "name", "life"]
noncomputable def T_law_station : List ((Str × Nat) × ON) := [(("_law_pick", 2), F_law_pick), (("_law_taken", 2), F_law_taken)]
theorem eq_law_station : defM 40 N_law_station cC cB (T_law_station) (topS 55) = S_law_station := by
  kernel_rfl
def N_law_steps : List Str := ["row", "names", "most", "steps", "k", "back"]
noncomputable def T_law_steps : List ((Str × Nat) × ON) := [(("_law_taken", 2), F_law_taken), (("_law_pick", 2), F_law_pick)]
theorem eq_law_steps : defM 40 N_law_steps cC cB (T_law_steps) (topS 56) = S_law_steps := by
  kernel_rfl
def N_law_setups : List Str := ["row", "stations", "kinds", "found", "at", "one", "other"]
noncomputable def T_law_setups : List ((Str × Nat) × ON) := [(("_law_taken", 2), F_law_taken)]
theorem eq_law_setups : defM 40 N_law_setups cC cB (T_law_setups) (topS 57) = S_law_setups := by
  kernel_rfl
def N_law_small : List Str := ["row", "stations", "kinds", "period", "rows", "routes", "name", "many", "leads", "orders", "faults", "one", "k"]
noncomputable def T_law_small : List ((Str × Nat) × ON) := [(("_law_names", 2), F_law_names), (("_law_pick", 2), F_law_pick), (("_law_station", 2), F_law_station), (("_law_steps", 3), F_law_steps), (("_law_taken", 2), F_law_taken), (("_law_setups", 3), F_law_setups)]
theorem eq_law_small : defM 40 N_law_small cC cB (T_law_small) (topS 58) = S_law_small := by
  kernel_rfl
def N_law_start : List Str := ["parts", "one"]
noncomputable def T_law_start : List ((Str × Nat) × ON) := []
theorem eq_law_start : defM 40 N_law_start cC cB (T_law_start) (topS 65) = S_law_start := by
  kernel_rfl
def N_law_spot : List Str := ["parts", "station", "k"]
noncomputable def T_law_spot : List ((Str × Nat) × ON) := []
theorem eq_law_spot : defM 40 N_law_spot cC cB (T_law_spot) (topS 62) = S_law_spot := by
  kernel_rfl
def N_law_route : List Str := ["parts", "kind", "one"]
noncomputable def T_law_route : List ((Str × Nat) × ON) := []
theorem eq_law_route : defM 40 N_law_route cC cB (T_law_route) (topS 60) = S_law_route := by
  kernel_rfl
def N_law_way : List Str := ["parts", "part"]
noncomputable def T_law_way : List ((Str × Nat) × ON) := [(("_law_route", 2), F_law_route)]
theorem eq_law_way : defM 40 N_law_way cC cB (T_law_way) (topS 61) = S_law_way := by
  kernel_rfl
def N_law_goal : List Str := ["parts", "part"]
noncomputable def T_law_goal : List ((Str × Nat) × ON) := [(("_law_spot", 2), F_law_spot), (("_law_way", 2), F_law_way)]
theorem eq_law_goal : defM 40 N_law_goal cC cB (T_law_goal) (topS 63) = S_law_goal := by
  kernel_rfl
def N_law_setup : List Str := ["parts", "station", "one", "other", "found", "each"]
noncomputable def T_law_setup : List ((Str × Nat) × ON) := []
theorem eq_law_setup : defM 40 N_law_setup cC cB (T_law_setup) (topS 64) = S_law_setup := by
  kernel_rfl
def N_law_begin : List Str := ["parts", "at", "bay", "part", "rows", "busy", "name", "room", "life", "change", "repair", "kind", "work"]
noncomputable def T_law_begin : List ((Str × Nat) × ON) := [(("_law_way", 2), F_law_way), (("_law_setup", 4), F_law_setup)]
theorem eq_law_begin : defM 40 N_law_begin cC cB (T_law_begin) (topS 66) = S_law_begin := by
  kernel_rfl
def N_law_work : List Str := ["parts", "at", "bay", "word", "rows", "part", "left", "is_spoiled", "step"]
noncomputable def T_law_work : List ((Str × Nat) × ON) := [(("_law_way", 2), F_law_way)]
theorem eq_law_work : defM 40 N_law_work cC cB (T_law_work) (topS 67) = S_law_work := by
  kernel_rfl
def N_law_older : List Str := ["part"]
noncomputable def T_law_older : List ((Str × Nat) × ON) := []
theorem eq_law_older : defM 40 N_law_older cC cB (T_law_older) (topS 68) = S_law_older := by
  kernel_rfl
def N_law_closed : List Str := ["parts", "phase", "strikes", "bays", "queues", "gate", "is_struck", "told", "bay", "ago", "lines", "left", "one", "queue", "part"]
noncomputable def T_law_closed : List ((Str × Nat) × ON) := [(("_law_older", 1), F_law_older)]
theorem eq_law_closed : defM 40 N_law_closed cC cB (T_law_closed) (topS 69) = S_law_closed := by
  kernel_rfl
def N_law_moment : List Str := ["parts", "state", "word", "tags", "bays", "queues", "coming", "k", "stay", "part", "at", "phase", "strikes", "gate", "rows", "names", "inside", "bay", "queue", "one"]
noncomputable def T_law_moment : List ((Str × Nat) × ON) := [(("_law_goal", 2), F_law_goal), (("_law_begin", 5), F_law_begin), (("_law_work", 5), F_law_work), (("_law_way", 2), F_law_way), (("_law_closed", 7), F_law_closed)]
theorem eq_law_moment : defM 40 N_law_moment cC cB (T_law_moment) (topS 70) = S_law_moment := by
  kernel_rfl
def N_law_open : List Str := ["parts", "state", "found", "rows", "at", "row"]
noncomputable def T_law_open : List ((Str × Nat) × ON) := [(("_law_moment", 4), F_law_moment), (("_law_way", 2), F_law_way)]
theorem eq_law_open : defM 40 N_law_open cC cB (T_law_open) (topS 71) = S_law_open := by
  kernel_rfl
def N_law_walk : List Str := ["row", "parts", "many", "often", "turn", "states", "said", "open_now", "word"]
noncomputable def T_law_walk : List ((Str × Nat) × ON) := [(("_law_start", 1), F_law_start), (("_law_pick", 2), F_law_pick), (("_law_open", 2), F_law_open), (("_law_taken", 2), F_law_taken), (("_law_moment", 4), F_law_moment)]
theorem eq_law_walk : defM 40 N_law_walk cC cB (T_law_walk) (topS 73) = S_law_walk := by
  kernel_rfl
def N_law_inside : List Str := ["state", "found", "queue", "bay"]
noncomputable def T_law_inside : List ((Str × Nat) × ON) := []
theorem eq_law_inside : defM 40 N_law_inside cC cB (T_law_inside) (topS 72) = S_law_inside := by
  kernel_rfl
def N_law_log : List Str := ["parts", "course", "moment", "state", "found", "coming", "many", "late", "rows", "word", "part", "at", "number", "one", "k"]
noncomputable def T_law_log : List ((Str × Nat) × ON) := [(("_law_start", 1), F_law_start), (("_law_moment", 4), F_law_moment), (("_law_inside", 1), F_law_inside)]
theorem eq_law_log : defM 40 N_law_log cC cB (T_law_log) (topS 74) = S_law_log := by
  kernel_rfl
def N_law_lines : List Str := ["row", "parts", "kinds", "orders", "course", "one", "k"]
noncomputable def T_law_lines : List ((Str × Nat) × ON) := [(("_law_small", 1), F_law_small), (("_law_taken", 2), F_law_taken), (("_law_pick", 2), F_law_pick), (("_law_walk", 3), F_law_walk), (("_law_log", 2), F_law_log)]
theorem eq_law_lines : defM 40 N_law_lines cC cB (T_law_lines) (topS 75) = S_law_lines := by
  kernel_rfl
def N_require_part : List Str := ["part", "place"]
noncomputable def T_require_part : List ((Str × Nat) × ON) := []
theorem eq_require_part : defM 40 N_require_part cC cB (T_require_part) (topS 44) = S_require_part := by
  kernel_rfl
def N_first_wrong : List Str := ["value", "least", "most", "judge", "place", "row"]
noncomputable def T_first_wrong : List ((Str × Nat) × ON) := []
theorem eq_first_wrong (V : List ((Str × Nat) × ON)) (L : LamT → Nat → Option ON) : defME 40 N_first_wrong cC cB T_first_wrong { V := V, L := L } (defScope (topS 14)) (defBody (topS 14)) = S_first_wrong V L := by
  kernel_rfl
def N_is_new : List Str := ["name", "rows", "row"]
noncomputable def T_is_new : List ((Str × Nat) × ON) := []
theorem eq_is_new : defM 40 N_is_new cC cB (T_is_new) (topS 33) = S_is_new := by
  kernel_rfl
def N_is_name : List Str := ["value", "sign"]
noncomputable def T_is_name : List ((Str × Nat) × ON) := []
theorem eq_is_name : defM 40 N_is_name cC cB (T_is_name) (topS 12) = S_is_name := by
  kernel_rfl
def N_is_row : List Str := ["value", "size"]
noncomputable def T_is_row : List ((Str × Nat) × ON) := []
theorem eq_is_row : defM 40 N_is_row cC cB (T_is_row) (topS 13) = S_is_row := by
  kernel_rfl
def N_is_whole : List Str := ["value"]
noncomputable def T_is_whole : List ((Str × Nat) × ON) := []
theorem eq_is_whole : defM 40 N_is_whole cC cB (T_is_whole) (topS 10) = S_is_whole := by
  kernel_rfl
def N_is_within : List Str := ["value", "least", "most"]
noncomputable def T_is_within : List ((Str × Nat) × ON) := [(("is_whole", 1), F_is_whole)]
theorem eq_is_within : defM 40 N_is_within cC cB (T_is_within) (topS 11) = S_is_within := by
  kernel_rfl
def N_is_station_row : List Str := ["row", "ahead", "name", "room", "life", "change", "repair"]
noncomputable def T_is_station_row : List ((Str × Nat) × ON) := [(("is_new", 2), F_is_new), (("is_name", 1), F_is_name), (("is_row", 2), F_is_row), (("is_within", 3), F_is_within)]
theorem eq_is_station_row : defM 40 N_is_station_row cC cB (T_is_station_row) (topS 34) = S_is_station_row := by
  kernel_rfl
def N_require_stations : List Str := ["stations"]
noncomputable def T_require_stations : List ((Str × Nat) × ON) := [(("require_part", 2), F_require_part), (("first_wrong", 4), F_first_wrong [(("is_station_row", 2), F_is_station_row)] noL)]
theorem eq_require_stations : defM 40 N_require_stations cC cB (T_require_stations) (topS 45) = S_require_stations := by
  kernel_rfl
def N_is_step : List Str := ["step", "place", "lives", "station", "work", "back"]
noncomputable def T_is_step : List ((Str × Nat) × ON) := [(("is_name", 1), F_is_name), (("is_row", 2), F_is_row), (("is_within", 3), F_is_within)]
noncomputable def ce_is_step : CtE := { dk := true }
theorem eq_is_step : defME 40 N_is_step cC cB T_is_step ce_is_step (defScope (topS 35)) (defBody (topS 35)) = S_is_step := by
  kernel_rfl
def N_is_kind_row : List Str := ["row", "ahead", "lives", "route", "place", "step"]
noncomputable def T_is_kind_row : List ((Str × Nat) × ON) := [(("is_new", 2), F_is_new), (("is_name", 1), F_is_name), (("is_row", 2), F_is_row), (("is_step", 3), F_is_step)]
theorem eq_is_kind_row : defM 40 N_is_kind_row cC cB (T_is_kind_row) (topS 36) = S_is_kind_row := by
  kernel_rfl
def N_require_kinds : List Str := ["kinds", "lives", "judge"]
noncomputable def T_require_kinds : List ((Str × Nat) × ON) := [(("is_kind_row", 3), F_is_kind_row), (("require_part", 2), F_require_part), (("first_wrong", 4), F_first_wrong [] (oneL (lamsL 0) 2 G_require_kinds))]
noncomputable def ce_require_kinds : CtE := { lam := some (liOf "require_kinds" 1) }
theorem eq_require_kinds : defME 40 N_require_kinds cC cB T_require_kinds ce_require_kinds (defScope (topS 46)) (defBody (topS 46)) = S_require_kinds lamsL := by
  kernel_rfl
def NG_require_kinds : List Str := ["row", "ahead", "lives"]
noncomputable def TG_require_kinds : List ((Str × Nat) × ON) := [(("is_kind_row", 3), F_is_kind_row)]
theorem eqG_require_kinds : lamM 40 NG_require_kinds cC cB TG_require_kinds {} (lamsL 0) = G_require_kinds := by
  kernel_rfl
def N_is_order_row : List Str := ["row", "kinds", "period"]
noncomputable def T_is_order_row : List ((Str × Nat) × ON) := [(("is_within", 3), F_is_within), (("is_row", 2), F_is_row), (("is_name", 1), F_is_name)]
theorem eq_is_order_row : defM 40 N_is_order_row cC cB (T_is_order_row) (topS 37) = S_is_order_row := by
  kernel_rfl
def N_require_orders : List Str := ["orders", "kinds", "period", "judge"]
noncomputable def T_require_orders : List ((Str × Nat) × ON) := [(("is_order_row", 3), F_is_order_row), (("require_part", 2), F_require_part), (("first_wrong", 4), F_first_wrong [] (oneL (lamsL 1) 2 G_require_orders))]
noncomputable def ce_require_orders : CtE := { lam := some (liOf "require_orders" 2) }
theorem eq_require_orders : defME 40 N_require_orders cC cB T_require_orders ce_require_orders (defScope (topS 47)) (defBody (topS 47)) = S_require_orders lamsL := by
  kernel_rfl
def NG_require_orders : List Str := ["row", "ahead", "kinds", "period"]
noncomputable def TG_require_orders : List ((Str × Nat) × ON) := [(("is_order_row", 3), F_is_order_row)]
theorem eqG_require_orders : lamM 40 NG_require_orders cC cB TG_require_orders {} (lamsL 1) = G_require_orders := by
  kernel_rfl
def N_is_setup_row : List Str := ["row", "ahead", "stations", "kinds", "word"]
noncomputable def T_is_setup_row : List ((Str × Nat) × ON) := [(("is_name", 1), F_is_name), (("is_row", 2), F_is_row), (("is_within", 3), F_is_within)]
noncomputable def ce_is_setup_row : CtE := { dk := true }
theorem eq_is_setup_row : defME 40 N_is_setup_row cC cB T_is_setup_row ce_is_setup_row (defScope (topS 38)) (defBody (topS 38)) = S_is_setup_row := by
  kernel_rfl
def N_require_setups : List Str := ["setups", "stations", "kinds", "judge"]
noncomputable def T_require_setups : List ((Str × Nat) × ON) := [(("is_setup_row", 4), F_is_setup_row), (("require_part", 2), F_require_part), (("first_wrong", 4), F_first_wrong [] (oneL (lamsL 2) 2 G_require_setups))]
noncomputable def ce_require_setups : CtE := { lam := some (liOf "require_setups" 3) }
theorem eq_require_setups : defME 40 N_require_setups cC cB T_require_setups ce_require_setups (defScope (topS 48)) (defBody (topS 48)) = S_require_setups lamsL := by
  kernel_rfl
def NG_require_setups : List Str := ["row", "ahead", "kinds", "stations"]
noncomputable def TG_require_setups : List ((Str × Nat) × ON) := [(("is_setup_row", 4), F_is_setup_row)]
theorem eqG_require_setups : lamM 40 NG_require_setups cC cB TG_require_setups {} (lamsL 2) = G_require_setups := by
  kernel_rfl
def N_is_bound : List Str := ["value"]
noncomputable def T_is_bound : List ((Str × Nat) × ON) := [(("is_within", 3), F_is_within), (("is_row", 2), F_is_row)]
theorem eq_is_bound : defM 40 N_is_bound cC cB (T_is_bound) (topS 39) = S_is_bound := by
  kernel_rfl
def NPlan___init__ : List Str := ["self", "stations", "kinds", "period", "orders", "setups", "faults", "spoils", "lives", "names", "row", "place"]
noncomputable def TPlan___init__ : List ((Str × Nat) × ON) := [(("require_stations", 1), F_require_stations), (("require_kinds", 2), (F_require_kinds lamsL)), (("is_within", 3), F_is_within), (("require_orders", 3), (F_require_orders lamsL)), (("require_setups", 3), (F_require_setups lamsL)), (("is_bound", 1), F_is_bound)]
noncomputable def cePlan___init__ : CtE := { at_ := atL }
theorem eqPlan___init__ : defME 40 NPlan___init__ cC cB TPlan___init__ cePlan___init__ (defScope (clsS 49 0)) (defBody (clsS 49 0)) = SPlan___init__ lamsL := by
  kernel_rfl
def N_law_made : List Str := ["parts"]
noncomputable def T_law_made : List ((Str × Nat) × ON) := []
noncomputable def ce_law_made : CtE := { mkk := [(("Plan", 4, ["setups", "faults", "spoils"]), (((List.range 4).map ASrc.pos ++ (List.range 3).map ASrc.kw), (FPlan___init__ lamsL)))] }
theorem eq_law_made : defME 40 N_law_made cC cB T_law_made ce_law_made (defScope (topS 59)) (defBody (topS 59)) = S_law_made lamsL := by
  kernel_rfl
def N_strikes_in : List Str := ["course", "word"]
noncomputable def T_strikes_in : List ((Str × Nat) × ON) := []
theorem eq_strikes_in : defM 40 N_strikes_in cC cB (T_strikes_in) (topS 41) = S_strikes_in := by
  kernel_rfl
def N_is_within_bound : List Str := ["plan", "course", "end", "many", "window"]
noncomputable def T_is_within_bound : List ((Str × Nat) × ON) := [(("strikes_in", 1), F_strikes_in)]
noncomputable def ce_is_within_bound : CtE := { at_ := atL }
theorem eq_is_within_bound : defME 40 N_is_within_bound cC cB T_is_within_bound ce_is_within_bound (defScope (topS 42)) (defBody (topS 42)) = S_is_within_bound := by
  kernel_rfl
def N_law_alike : List Str := ["found", "due", "k"]
noncomputable def T_law_alike (self : ON) : List ((Str × Nat) × ON) := [(("_law_alike", 2), self)]
theorem eq_law_alike : ∀ self : ON, defM 40 N_law_alike cC cB (T_law_alike self) (topS 53) = S_law_alike self := by
  intro self
  kernel_rfl
def N_law : List Str := ["script", "row", "turn", "parts", "plan", "course", "names", "words", "struck", "due", "many", "window", "one", "word", "k"]
noncomputable def T_law : List ((Str × Nat) × ON) := [(("_law_lines", 1), F_law_lines), (("_law_made", 1), (F_law_made lamsL)), (("_law_walk", 3), F_law_walk), (("_law_pick", 2), F_law_pick), (("is_within_bound", 2), F_is_within_bound), (("_law_taken", 2), F_law_taken), (("_law_alike", 2), F_law_alike), (("strikes_in", 1), F_strikes_in)]
theorem eq_law : defM 40 N_law cC cB (T_law) (topS 76) = S_law_k38 lamsL := by
  kernel_rfl
def mkD (x : Str) (i : Nat) : He.DefD := ⟨(x, none), x, x, defArgs (topS i), defBody (topS i), defScope (topS i), [], []⟩
def mkM (c m q : Str) (i j : Nat) : He.DefD := ⟨(c, some m), m, q, defArgs (clsS i j), defBody (clsS i j), defScope (clsS i j), [], []⟩
def fnL : List He.DefD := ([mkD "_law_taken" 51, mkD "_law_names" 54, mkD "_law_pick" 52, mkD "_law_station" 55, mkD "_law_steps" 56, mkD "_law_setups" 57, mkD "_law_small" 58, mkD "_law_start" 65, mkD "_law_spot" 62, mkD "_law_route" 60, mkD "_law_way" 61, mkD "_law_goal" 63, mkD "_law_setup" 64, mkD "_law_begin" 66, mkD "_law_work" 67, mkD "_law_older" 68, mkD "_law_closed" 69, mkD "_law_moment" 70, mkD "_law_open" 71, mkD "_law_walk" 73, mkD "_law_inside" 72, mkD "_law_log" 74, mkD "_law_lines" 75, mkD "require_part" 44, mkD "first_wrong" 14, mkD "is_new" 33, mkD "is_name" 12, mkD "is_row" 13, mkD "is_whole" 10, mkD "is_within" 11] : List He.DefD) ++ ([mkD "is_station_row" 34, mkD "require_stations" 45, mkD "is_step" 35, mkD "is_kind_row" 36, mkD "require_kinds" 46, mkD "is_order_row" 37, mkD "require_orders" 47, mkD "is_setup_row" 38, mkD "require_setups" 48, mkD "is_bound" 39, mkD "_law_made" 59, mkD "strikes_in" 41, mkD "is_within_bound" 42, mkD "_law_alike" 53, mkD "law" 76, mkM "Plan" "__init__" "Plan.__init__" 49 0] : List He.DefD)
def faL : List He.Fa := ([.glo "_law_taken", .glo "_law_names", .glo "_law_pick", .glo "_law_station", .glo "_law_steps", .glo "_law_setups", .glo "_law_small", .glo "_law_start", .glo "_law_spot", .glo "_law_route", .glo "_law_way", .glo "_law_goal", .glo "_law_setup", .glo "_law_begin", .glo "_law_work", .glo "_law_older", .glo "_law_closed", .glo "_law_moment", .glo "_law_open", .glo "_law_walk", .glo "_law_inside", .glo "_law_log", .glo "_law_lines", .glo "require_part", .glo "first_wrong", .glo "is_new", .glo "is_name", .glo "is_row", .glo "is_whole", .glo "is_within"] : List He.Fa) ++ ([.glo "is_station_row", .glo "require_stations", .glo "is_step", .glo "is_kind_row", .glo "require_kinds", .glo "is_order_row", .glo "require_orders", .glo "is_setup_row", .glo "require_setups", .glo "is_bound", .glo "_law_made", .glo "strikes_in", .glo "is_within_bound", .glo "_law_alike", .glo "law", .glo "Plan", .free "all", .free "bool", .free "enumerate", .free "int", .free "isinstance", .free "len", .free "list", .free "max", .free "min", .free "range", .free "sorted", .free "str", .free "sum", .free "tuple"] : List He.Fa) ++ ([.str "LETTERS" "abcdefghijklmnopqrstuvwxyz", .int "LONGEST" 8, .int "MOST_CHANGE" 3, .int "MOST_FAULTS" 3, .int "MOST_KINDS" 4, .int "MOST_LEAD" 30, .int "MOST_LIFE" 6, .int "MOST_ORDERS" 5, .int "MOST_PERIOD" 8, .int "MOST_REPAIR" 4, .int "MOST_ROOM" 4, .int "MOST_SETUP" 3, .int "MOST_SETUPS" 20, .int "MOST_SPOILS" 2, .int "MOST_STATIONS" 4, .int "MOST_STEPS" 5, .int "MOST_WINDOW" 8, .int "MOST_WORK" 4, .cls "Plan", .mkr "Plan", .noat "Plan" "stations", .noat "Plan" "kinds", .noat "Plan" "period", .noat "Plan" "orders", .noat "Plan" "setups", .noat "Plan" "faults", .noat "Plan" "spoils", .noat "Plan" "spots", .noat "Plan" "routes", .noat "Plan" "table"] : List He.Fa)
def tfL : List He.Defn := [("require_kinds", none), ("require_orders", none), ("require_setups", none)]
def tsL : List ((Str × Option Str) × Str) := [(("require_kinds", none), "require_kinds.<locals>.<lambda>"), (("require_orders", none), "require_orders.<locals>.<lambda>"), (("require_setups", none), "require_setups.<locals>.<lambda>")]
def looseL : List Str := (["_wall", "LineError", "BadPlan", "UnknownStation", "UnknownKind", "UnknownOrder", "LETTERS", "LONGEST", "is_whole", "is_within", "is_name", "is_row", "first_wrong", "place_told", "MOST_STATIONS", "MOST_KINDS", "MOST_STEPS", "MOST_ORDERS", "MOST_PERIOD", "MOST_SETUPS", "MOST_LEAD", "MOST_ROOM", "MOST_LIFE", "MOST_CHANGE", "MOST_REPAIR", "MOST_WORK", "MOST_SETUP", "MOST_FAULTS", "MOST_WINDOW", "MOST_SPOILS"] : List Str) ++ (["is_new", "is_station_row", "is_step", "is_kind_row", "is_order_row", "is_setup_row", "is_bound", "strikes_in", "is_within_bound", "require_part", "require_stations", "require_kinds", "require_orders", "require_setups", "Plan", "_law_taken", "_law_pick", "_law_alike", "_law_names", "_law_station", "_law_steps", "_law_setups", "_law_small", "_law_made", "_law_route", "_law_way", "_law_spot", "_law_goal", "_law_setup", "_law_start"] : List Str) ++ (["_law_begin", "_law_work", "_law_older", "_law_closed", "_law_moment", "_law_open", "_law_inside", "_law_walk", "_law_log", "_law_lines"] : List Str)
abbrev rowL : PySem.W.OpenRow := PySem.W.OpenLaw.row PySem.Challenge.rw_linesure_k38_strikes_within_the_bound
def exL (K : PySem.W.Frag) : Bool := decide ((tsL.map fun p => (He.cT K p.1).2).Nodup)
abbrev hkL : PySem.W.Hook := He.hookX 4 faL fnL [] tfL exL
def obL (s : PySem.W.SharedT) : He.AlX := He.obsX 4 faL fnL [] tfL exL (HandSHeadRun.getT s)
theorem obL_eq (s : PySem.W.SharedT) : obL s = hkL.obs s.abs := He.obsX_eq (HandSHeadRun.getT_eq s)
theorem runL (w : World) : HandSHeadRun.RunEq rowL (PySem.W.view rowL.prog [76]) hkL obL 4000 looseL w := by
  intro os
  kernel_rfl
theorem sc_law_taken : FnScope N_law_taken ["row", "many"] (defScope (topS 51)) := ⟨rfl, rfl, rfl, by decide +kernel, rfl, by decide +kernel, by decide +kernel⟩
theorem sc_law_names : FnScope N_law_names ["row", "many"] (defScope (topS 54)) := ⟨rfl, rfl, rfl, by decide +kernel, rfl, by decide +kernel, by decide +kernel⟩
theorem sc_law_pick : FnScope N_law_pick ["row", "things"] (defScope (topS 52)) := ⟨rfl, rfl, rfl, by decide +kernel, rfl, by decide +kernel, by decide +kernel⟩
theorem sc_law_station : FnScope N_law_station ["row", "name"] (defScope (topS 55)) := ⟨rfl, rfl, rfl, by decide +kernel, rfl, by decide +kernel, by decide +kernel⟩
theorem sc_law_steps : FnScope N_law_steps ["row", "names", "most"] (defScope (topS 56)) := ⟨rfl, rfl, rfl, by decide +kernel, rfl, by decide +kernel, by decide +kernel⟩
theorem sc_law_setups : FnScope N_law_setups ["row", "stations", "kinds"] (defScope (topS 57)) := ⟨rfl, rfl, rfl, by decide +kernel, rfl, by decide +kernel, by decide +kernel⟩
theorem sc_law_small : FnScope N_law_small ["row"] (defScope (topS 58)) := ⟨rfl, rfl, rfl, by decide +kernel, rfl, by decide +kernel, by decide +kernel⟩
theorem sc_law_start : FnScope N_law_start ["parts"] (defScope (topS 65)) := ⟨rfl, rfl, rfl, by decide +kernel, rfl, by decide +kernel, by decide +kernel⟩
theorem sc_law_spot : FnScope N_law_spot ["parts", "station"] (defScope (topS 62)) := ⟨rfl, rfl, rfl, by decide +kernel, rfl, by decide +kernel, by decide +kernel⟩
theorem sc_law_route : FnScope N_law_route ["parts", "kind"] (defScope (topS 60)) := ⟨rfl, rfl, rfl, by decide +kernel, rfl, by decide +kernel, by decide +kernel⟩
theorem sc_law_way : FnScope N_law_way ["parts", "part"] (defScope (topS 61)) := ⟨rfl, rfl, rfl, by decide +kernel, rfl, by decide +kernel, by decide +kernel⟩
theorem sc_law_goal : FnScope N_law_goal ["parts", "part"] (defScope (topS 63)) := ⟨rfl, rfl, rfl, by decide +kernel, rfl, by decide +kernel, by decide +kernel⟩
theorem sc_law_setup : FnScope N_law_setup ["parts", "station", "one", "other"] (defScope (topS 64)) := ⟨rfl, rfl, rfl, by decide +kernel, rfl, by decide +kernel, by decide +kernel⟩
theorem sc_law_begin : FnScope N_law_begin ["parts", "at", "bay", "part", "rows"] (defScope (topS 66)) := ⟨rfl, rfl, rfl, by decide +kernel, rfl, by decide +kernel, by decide +kernel⟩
theorem sc_law_work : FnScope N_law_work ["parts", "at", "bay", "word", "rows"] (defScope (topS 67)) := ⟨rfl, rfl, rfl, by decide +kernel, rfl, by decide +kernel, by decide +kernel⟩
theorem sc_law_older : FnScope N_law_older ["part"] (defScope (topS 68)) := ⟨rfl, rfl, rfl, by decide +kernel, rfl, by decide +kernel, by decide +kernel⟩
theorem sc_law_closed : FnScope N_law_closed ["parts", "phase", "strikes", "bays", "queues", "gate", "is_struck"] (defScope (topS 69)) := ⟨rfl, rfl, rfl, by decide +kernel, rfl, by decide +kernel, by decide +kernel⟩
theorem sc_law_moment : FnScope N_law_moment ["parts", "state", "word", "tags"] (defScope (topS 70)) := ⟨rfl, rfl, rfl, by decide +kernel, rfl, by decide +kernel, by decide +kernel⟩
theorem sc_law_open : FnScope N_law_open ["parts", "state"] (defScope (topS 71)) := ⟨rfl, rfl, rfl, by decide +kernel, rfl, by decide +kernel, by decide +kernel⟩
theorem sc_law_walk : FnScope N_law_walk ["row", "parts", "many"] (defScope (topS 73)) := ⟨rfl, rfl, rfl, by decide +kernel, rfl, by decide +kernel, by decide +kernel⟩
theorem sc_law_inside : FnScope N_law_inside ["state"] (defScope (topS 72)) := ⟨rfl, rfl, rfl, by decide +kernel, rfl, by decide +kernel, by decide +kernel⟩
theorem sc_law_log : FnScope N_law_log ["parts", "course"] (defScope (topS 74)) := ⟨rfl, rfl, rfl, by decide +kernel, rfl, by decide +kernel, by decide +kernel⟩
theorem sc_law_lines : FnScope N_law_lines ["row"] (defScope (topS 75)) := ⟨rfl, rfl, rfl, by decide +kernel, rfl, by decide +kernel, by decide +kernel⟩
theorem sc_require_part : FnScope N_require_part ["part", "place"] (defScope (topS 44)) := ⟨rfl, rfl, rfl, by decide +kernel, rfl, by decide +kernel, by decide +kernel⟩
theorem sc_first_wrong : FnScope N_first_wrong ["value", "least", "most", "judge"] (defScope (topS 14)) := ⟨rfl, rfl, rfl, by decide +kernel, rfl, by decide +kernel, by decide +kernel⟩
theorem sc_is_new : FnScope N_is_new ["name", "rows"] (defScope (topS 33)) := ⟨rfl, rfl, rfl, by decide +kernel, rfl, by decide +kernel, by decide +kernel⟩
theorem sc_is_name : FnScope N_is_name ["value"] (defScope (topS 12)) := ⟨rfl, rfl, rfl, by decide +kernel, rfl, by decide +kernel, by decide +kernel⟩
theorem sc_is_row : FnScope N_is_row ["value", "size"] (defScope (topS 13)) := ⟨rfl, rfl, rfl, by decide +kernel, rfl, by decide +kernel, by decide +kernel⟩
theorem sc_is_whole : FnScope N_is_whole ["value"] (defScope (topS 10)) := ⟨rfl, rfl, rfl, by decide +kernel, rfl, by decide +kernel, by decide +kernel⟩
theorem sc_is_within : FnScope N_is_within ["value", "least", "most"] (defScope (topS 11)) := ⟨rfl, rfl, rfl, by decide +kernel, rfl, by decide +kernel, by decide +kernel⟩
theorem sc_is_station_row : FnScope N_is_station_row ["row", "ahead"] (defScope (topS 34)) := ⟨rfl, rfl, rfl, by decide +kernel, rfl, by decide +kernel, by decide +kernel⟩
theorem sc_require_stations : FnScope N_require_stations ["stations"] (defScope (topS 45)) := ⟨rfl, rfl, rfl, by decide +kernel, rfl, by decide +kernel, by decide +kernel⟩
theorem sc_is_step : FnScope N_is_step ["step", "place", "lives"] (defScope (topS 35)) := ⟨rfl, rfl, rfl, by decide +kernel, rfl, by decide +kernel, by decide +kernel⟩
theorem sc_is_kind_row : FnScope N_is_kind_row ["row", "ahead", "lives"] (defScope (topS 36)) := ⟨rfl, rfl, rfl, by decide +kernel, rfl, by decide +kernel, by decide +kernel⟩
theorem sc_require_kinds : FnScope N_require_kinds ["kinds", "lives"] (defScope (topS 46)) := ⟨rfl, rfl, rfl, by decide +kernel, rfl, by decide +kernel, by decide +kernel⟩
theorem sc_is_order_row : FnScope N_is_order_row ["row", "kinds", "period"] (defScope (topS 37)) := ⟨rfl, rfl, rfl, by decide +kernel, rfl, by decide +kernel, by decide +kernel⟩
theorem sc_require_orders : FnScope N_require_orders ["orders", "kinds", "period"] (defScope (topS 47)) := ⟨rfl, rfl, rfl, by decide +kernel, rfl, by decide +kernel, by decide +kernel⟩
theorem sc_is_setup_row : FnScope N_is_setup_row ["row", "ahead", "stations", "kinds"] (defScope (topS 38)) := ⟨rfl, rfl, rfl, by decide +kernel, rfl, by decide +kernel, by decide +kernel⟩
theorem sc_require_setups : FnScope N_require_setups ["setups", "stations", "kinds"] (defScope (topS 48)) := ⟨rfl, rfl, rfl, by decide +kernel, rfl, by decide +kernel, by decide +kernel⟩
theorem sc_is_bound : FnScope N_is_bound ["value"] (defScope (topS 39)) := ⟨rfl, rfl, rfl, by decide +kernel, rfl, by decide +kernel, by decide +kernel⟩
theorem scPlan___init__ : FnScope NPlan___init__ ["self", "stations", "kinds", "period", "orders", "setups", "faults", "spoils"] (defScope (clsS 49 0)) := ⟨rfl, rfl, rfl, by decide +kernel, rfl, by decide +kernel, by decide +kernel⟩
theorem sc_law_made : FnScope N_law_made ["parts"] (defScope (topS 59)) := ⟨rfl, rfl, rfl, by decide +kernel, rfl, by decide +kernel, by decide +kernel⟩
theorem sc_strikes_in : FnScope N_strikes_in ["course"] (defScope (topS 41)) := ⟨rfl, rfl, rfl, by decide +kernel, rfl, by decide +kernel, by decide +kernel⟩
theorem sc_is_within_bound : FnScope N_is_within_bound ["plan", "course"] (defScope (topS 42)) := ⟨rfl, rfl, rfl, by decide +kernel, rfl, by decide +kernel, by decide +kernel⟩
theorem sc_law_alike : FnScope N_law_alike ["found", "due"] (defScope (topS 53)) := ⟨rfl, rfl, rfl, by decide +kernel, rfl, by decide +kernel, by decide +kernel⟩
theorem sc_law : FnScope N_law ["script"] (defScope (topS 76)) := ⟨rfl, rfl, rfl, by decide +kernel, rfl, by decide +kernel, by decide +kernel⟩
section
variable {P : Program} {w : World} {K : PySem.W.Frag} {mg : Str → Option Value} {base h : Heap}
theorem modL (X : K.In h) (G : h.Ns mainGlobals mg) (c : He.SaysD faL fnL K) (m : exL K = true) : ModOk K mg cC cB := by
  unfold exL at m
  refine ModOk.cons (ModOk.cons (ModOk.cons (ModOk.cons (ModOk.cons (ModOk.cons (ModOk.cons (ModOk.cons (ModOk.cons (ModOk.cons (ModOk.cons (ModOk.cons (ModOk.cons (ModOk.cons (ModOk.cons (ModOk.cons (ModOk.cons (ModOk.cons (ModOk.cons (modOk_nil (B := cB) (fun x hx => ?_)) ⟨_, .ref (He.ga K "is_station_row"), (He.glo_ok X G (c.fact 30 (f := .glo "is_station_row") rfl)), rfl, fun _ _ => .gl _⟩) (con_int (He.int_ok X G (c.fact 77 (f := .int "MOST_WORK" 4) rfl)))) (con_int (He.int_ok X G (c.fact 76 (f := .int "MOST_WINDOW" 8) rfl)))) (con_int (He.int_ok X G (c.fact 75 (f := .int "MOST_STEPS" 5) rfl)))) (con_int (He.int_ok X G (c.fact 74 (f := .int "MOST_STATIONS" 4) rfl)))) (con_int (He.int_ok X G (c.fact 73 (f := .int "MOST_SPOILS" 2) rfl)))) (con_int (He.int_ok X G (c.fact 72 (f := .int "MOST_SETUPS" 20) rfl)))) (con_int (He.int_ok X G (c.fact 71 (f := .int "MOST_SETUP" 3) rfl)))) (con_int (He.int_ok X G (c.fact 70 (f := .int "MOST_ROOM" 4) rfl)))) (con_int (He.int_ok X G (c.fact 69 (f := .int "MOST_REPAIR" 4) rfl)))) (con_int (He.int_ok X G (c.fact 68 (f := .int "MOST_PERIOD" 8) rfl)))) (con_int (He.int_ok X G (c.fact 67 (f := .int "MOST_ORDERS" 5) rfl)))) (con_int (He.int_ok X G (c.fact 66 (f := .int "MOST_LIFE" 6) rfl)))) (con_int (He.int_ok X G (c.fact 65 (f := .int "MOST_LEAD" 30) rfl)))) (con_int (He.int_ok X G (c.fact 64 (f := .int "MOST_KINDS" 4) rfl)))) (con_int (He.int_ok X G (c.fact 63 (f := .int "MOST_FAULTS" 3) rfl)))) (con_int (He.int_ok X G (c.fact 62 (f := .int "MOST_CHANGE" 3) rfl)))) (con_int (He.int_ok X G (c.fact 61 (f := .int "LONGEST" 8) rfl)))) (con_str (He.str_ok X G (c.fact 60 (f := .str "LETTERS" "abcdefghijklmnopqrstuvwxyz") rfl)))
  unfold cB at hx
  simp only [List.mem_cons, List.not_mem_nil, or_false] at hx
  rcases hx with rfl | rfl | rfl | rfl | rfl | rfl | rfl | rfl | rfl | rfl | rfl | rfl | rfl | rfl
  · exact He.free_ok X G (c.fact 46 (f := .free "all") rfl)
  · exact He.free_ok X G (c.fact 47 (f := .free "bool") rfl)
  · exact He.free_ok X G (c.fact 48 (f := .free "enumerate") rfl)
  · exact He.free_ok X G (c.fact 49 (f := .free "int") rfl)
  · exact He.free_ok X G (c.fact 50 (f := .free "isinstance") rfl)
  · exact He.free_ok X G (c.fact 51 (f := .free "len") rfl)
  · exact He.free_ok X G (c.fact 52 (f := .free "list") rfl)
  · exact He.free_ok X G (c.fact 53 (f := .free "max") rfl)
  · exact He.free_ok X G (c.fact 54 (f := .free "min") rfl)
  · exact He.free_ok X G (c.fact 55 (f := .free "range") rfl)
  · exact He.free_ok X G (c.fact 56 (f := .free "sorted") rfl)
  · exact He.free_ok X G (c.fact 57 (f := .free "str") rfl)
  · exact He.free_ok X G (c.fact 58 (f := .free "sum") rfl)
  · exact He.free_ok X G (c.fact 59 (f := .free "tuple") rfl)
theorem atsL (X : K.In h) (G : h.Ns mainGlobals mg) (c : He.SaysD faL fnL K) (m : exL K = true) : AtsOk K atL := by
  refine ⟨fun x f hx => ?_⟩
  unfold atL at hx
  simp only [List.mem_cons, List.not_mem_nil, or_false, Prod.mk.injEq] at hx
  rcases hx with ⟨rfl, rfl⟩ | ⟨rfl, rfl⟩ | ⟨rfl, rfl⟩ | ⟨rfl, rfl⟩ | ⟨rfl, rfl⟩ | ⟨rfl, rfl⟩ | ⟨rfl, rfl⟩ | ⟨rfl, rfl⟩ | ⟨rfl, rfl⟩ | ⟨rfl, rfl⟩
  · exact ⟨He.cls_ok (c.fact 78 (f := .cls "Plan") rfl), He.noat_ok (c.fact 80 (f := .noat "Plan" "stations") rfl)⟩
  · exact ⟨He.cls_ok (c.fact 78 (f := .cls "Plan") rfl), He.noat_ok (c.fact 81 (f := .noat "Plan" "kinds") rfl)⟩
  · exact ⟨He.cls_ok (c.fact 78 (f := .cls "Plan") rfl), He.noat_ok (c.fact 82 (f := .noat "Plan" "period") rfl)⟩
  · exact ⟨He.cls_ok (c.fact 78 (f := .cls "Plan") rfl), He.noat_ok (c.fact 83 (f := .noat "Plan" "orders") rfl)⟩
  · exact ⟨He.cls_ok (c.fact 78 (f := .cls "Plan") rfl), He.noat_ok (c.fact 84 (f := .noat "Plan" "setups") rfl)⟩
  · exact ⟨He.cls_ok (c.fact 78 (f := .cls "Plan") rfl), He.noat_ok (c.fact 85 (f := .noat "Plan" "faults") rfl)⟩
  · exact ⟨He.cls_ok (c.fact 78 (f := .cls "Plan") rfl), He.noat_ok (c.fact 86 (f := .noat "Plan" "spoils") rfl)⟩
  · exact ⟨He.cls_ok (c.fact 78 (f := .cls "Plan") rfl), He.noat_ok (c.fact 87 (f := .noat "Plan" "spots") rfl)⟩
  · exact ⟨He.cls_ok (c.fact 78 (f := .cls "Plan") rfl), He.noat_ok (c.fact 88 (f := .noat "Plan" "routes") rfl)⟩
  · exact ⟨He.cls_ok (c.fact 78 (f := .cls "Plan") rfl), He.noat_ok (c.fact 89 (f := .noat "Plan" "table") rfl)⟩
theorem tf_law_taken (X : K.In h) (G : h.Ns mainGlobals mg) (c : He.SaysD faL fnL K) (m : exL K = true) : TFok P w K mg base 1 "_law_taken" 2 (F_law_taken) := by
  obtain ⟨fd, F⟩ := (c.def_ 0 (d := mkD "_law_taken" 51) rfl)
  exact def_of (k := 0) F (He.glo_ok X G (c.fact 0 (f := .glo "_law_taken") rfl)) (fun _ _ _ _ _ _ us hl => match us, hl with | [_, _], _ => rfl) sc_law_taken (modL X G c m) (tl_nil) eq_law_taken
theorem tf_law_names (X : K.In h) (G : h.Ns mainGlobals mg) (c : He.SaysD faL fnL K) (m : exL K = true) : TFok P w K mg base 2 "_law_names" 2 (F_law_names) := by
  obtain ⟨fd, F⟩ := (c.def_ 1 (d := mkD "_law_names" 54) rfl)
  exact def_of (k := 1) F (He.glo_ok X G (c.fact 1 (f := .glo "_law_names") rfl)) (fun _ _ _ _ _ _ us hl => match us, hl with | [_, _], _ => rfl) sc_law_names (modL X G c m) (tl_cons (tf_law_taken X G c m) (by decide) (tl_nil)) eq_law_names
theorem tf_law_pick (X : K.In h) (G : h.Ns mainGlobals mg) (c : He.SaysD faL fnL K) (m : exL K = true) : TFok P w K mg base 2 "_law_pick" 2 (F_law_pick) := by
  obtain ⟨fd, F⟩ := (c.def_ 2 (d := mkD "_law_pick" 52) rfl)
  exact def_of (k := 1) F (He.glo_ok X G (c.fact 2 (f := .glo "_law_pick") rfl)) (fun _ _ _ _ _ _ us hl => match us, hl with | [_, _], _ => rfl) sc_law_pick (modL X G c m) (tl_cons (tf_law_taken X G c m) (by decide) (tl_nil)) eq_law_pick
theorem tf_law_station (X : K.In h) (G : h.Ns mainGlobals mg) (c : He.SaysD faL fnL K) (m : exL K = true) : TFok P w K mg base 3 "_law_station" 2 (F_law_station) := by
  obtain ⟨fd, F⟩ := (c.def_ 3 (d := mkD "_law_station" 55) rfl)
  exact def_of (k := 2) F (He.glo_ok X G (c.fact 3 (f := .glo "_law_station") rfl)) (fun _ _ _ _ _ _ us hl => match us, hl with | [_, _], _ => rfl) sc_law_station (modL X G c m) (tl_cons (tf_law_pick X G c m) (by decide) (tl_cons (tf_law_taken X G c m) (by decide) (tl_nil))) eq_law_station
theorem tf_law_steps (X : K.In h) (G : h.Ns mainGlobals mg) (c : He.SaysD faL fnL K) (m : exL K = true) : TFok P w K mg base 3 "_law_steps" 3 (F_law_steps) := by
  obtain ⟨fd, F⟩ := (c.def_ 4 (d := mkD "_law_steps" 56) rfl)
  exact def_of (k := 2) F (He.glo_ok X G (c.fact 4 (f := .glo "_law_steps") rfl)) (fun _ _ _ _ _ _ us hl => match us, hl with | [_, _, _], _ => rfl) sc_law_steps (modL X G c m) (tl_cons (tf_law_taken X G c m) (by decide) (tl_cons (tf_law_pick X G c m) (by decide) (tl_nil))) eq_law_steps
theorem tf_law_setups (X : K.In h) (G : h.Ns mainGlobals mg) (c : He.SaysD faL fnL K) (m : exL K = true) : TFok P w K mg base 2 "_law_setups" 3 (F_law_setups) := by
  obtain ⟨fd, F⟩ := (c.def_ 5 (d := mkD "_law_setups" 57) rfl)
  exact def_of (k := 1) F (He.glo_ok X G (c.fact 5 (f := .glo "_law_setups") rfl)) (fun _ _ _ _ _ _ us hl => match us, hl with | [_, _, _], _ => rfl) sc_law_setups (modL X G c m) (tl_cons (tf_law_taken X G c m) (by decide) (tl_nil)) eq_law_setups
theorem tf_law_small (X : K.In h) (G : h.Ns mainGlobals mg) (c : He.SaysD faL fnL K) (m : exL K = true) : TFok P w K mg base 4 "_law_small" 1 (F_law_small) := by
  obtain ⟨fd, F⟩ := (c.def_ 6 (d := mkD "_law_small" 58) rfl)
  exact def_of (k := 3) F (He.glo_ok X G (c.fact 6 (f := .glo "_law_small") rfl)) (fun _ _ _ _ _ _ us hl => match us, hl with | [_], _ => rfl) sc_law_small (modL X G c m) (tl_cons (tf_law_names X G c m) (by decide) (tl_cons (tf_law_pick X G c m) (by decide) (tl_cons (tf_law_station X G c m) (by decide) (tl_cons (tf_law_steps X G c m) (by decide) (tl_cons (tf_law_taken X G c m) (by decide) (tl_cons (tf_law_setups X G c m) (by decide) (tl_nil))))))) eq_law_small
theorem tf_law_start (X : K.In h) (G : h.Ns mainGlobals mg) (c : He.SaysD faL fnL K) (m : exL K = true) : TFok P w K mg base 1 "_law_start" 1 (F_law_start) := by
  obtain ⟨fd, F⟩ := (c.def_ 7 (d := mkD "_law_start" 65) rfl)
  exact def_of (k := 0) F (He.glo_ok X G (c.fact 7 (f := .glo "_law_start") rfl)) (fun _ _ _ _ _ _ us hl => match us, hl with | [_], _ => rfl) sc_law_start (modL X G c m) (tl_nil) eq_law_start
theorem tf_law_spot (X : K.In h) (G : h.Ns mainGlobals mg) (c : He.SaysD faL fnL K) (m : exL K = true) : TFok P w K mg base 1 "_law_spot" 2 (F_law_spot) := by
  obtain ⟨fd, F⟩ := (c.def_ 8 (d := mkD "_law_spot" 62) rfl)
  exact def_of (k := 0) F (He.glo_ok X G (c.fact 8 (f := .glo "_law_spot") rfl)) (fun _ _ _ _ _ _ us hl => match us, hl with | [_, _], _ => rfl) sc_law_spot (modL X G c m) (tl_nil) eq_law_spot
theorem tf_law_route (X : K.In h) (G : h.Ns mainGlobals mg) (c : He.SaysD faL fnL K) (m : exL K = true) : TFok P w K mg base 1 "_law_route" 2 (F_law_route) := by
  obtain ⟨fd, F⟩ := (c.def_ 9 (d := mkD "_law_route" 60) rfl)
  exact def_of (k := 0) F (He.glo_ok X G (c.fact 9 (f := .glo "_law_route") rfl)) (fun _ _ _ _ _ _ us hl => match us, hl with | [_, _], _ => rfl) sc_law_route (modL X G c m) (tl_nil) eq_law_route
theorem tf_law_way (X : K.In h) (G : h.Ns mainGlobals mg) (c : He.SaysD faL fnL K) (m : exL K = true) : TFok P w K mg base 2 "_law_way" 2 (F_law_way) := by
  obtain ⟨fd, F⟩ := (c.def_ 10 (d := mkD "_law_way" 61) rfl)
  exact def_of (k := 1) F (He.glo_ok X G (c.fact 10 (f := .glo "_law_way") rfl)) (fun _ _ _ _ _ _ us hl => match us, hl with | [_, _], _ => rfl) sc_law_way (modL X G c m) (tl_cons (tf_law_route X G c m) (by decide) (tl_nil)) eq_law_way
theorem tf_law_goal (X : K.In h) (G : h.Ns mainGlobals mg) (c : He.SaysD faL fnL K) (m : exL K = true) : TFok P w K mg base 3 "_law_goal" 2 (F_law_goal) := by
  obtain ⟨fd, F⟩ := (c.def_ 11 (d := mkD "_law_goal" 63) rfl)
  exact def_of (k := 2) F (He.glo_ok X G (c.fact 11 (f := .glo "_law_goal") rfl)) (fun _ _ _ _ _ _ us hl => match us, hl with | [_, _], _ => rfl) sc_law_goal (modL X G c m) (tl_cons (tf_law_spot X G c m) (by decide) (tl_cons (tf_law_way X G c m) (by decide) (tl_nil))) eq_law_goal
theorem tf_law_setup (X : K.In h) (G : h.Ns mainGlobals mg) (c : He.SaysD faL fnL K) (m : exL K = true) : TFok P w K mg base 1 "_law_setup" 4 (F_law_setup) := by
  obtain ⟨fd, F⟩ := (c.def_ 12 (d := mkD "_law_setup" 64) rfl)
  exact def_of (k := 0) F (He.glo_ok X G (c.fact 12 (f := .glo "_law_setup") rfl)) (fun _ _ _ _ _ _ us hl => match us, hl with | [_, _, _, _], _ => rfl) sc_law_setup (modL X G c m) (tl_nil) eq_law_setup
theorem tf_law_begin (X : K.In h) (G : h.Ns mainGlobals mg) (c : He.SaysD faL fnL K) (m : exL K = true) : TFok P w K mg base 3 "_law_begin" 5 (F_law_begin) := by
  obtain ⟨fd, F⟩ := (c.def_ 13 (d := mkD "_law_begin" 66) rfl)
  exact def_of (k := 2) F (He.glo_ok X G (c.fact 13 (f := .glo "_law_begin") rfl)) (fun _ _ _ _ _ _ us hl => match us, hl with | [_, _, _, _, _], _ => rfl) sc_law_begin (modL X G c m) (tl_cons (tf_law_way X G c m) (by decide) (tl_cons (tf_law_setup X G c m) (by decide) (tl_nil))) eq_law_begin
theorem tf_law_work (X : K.In h) (G : h.Ns mainGlobals mg) (c : He.SaysD faL fnL K) (m : exL K = true) : TFok P w K mg base 3 "_law_work" 5 (F_law_work) := by
  obtain ⟨fd, F⟩ := (c.def_ 14 (d := mkD "_law_work" 67) rfl)
  exact def_of (k := 2) F (He.glo_ok X G (c.fact 14 (f := .glo "_law_work") rfl)) (fun _ _ _ _ _ _ us hl => match us, hl with | [_, _, _, _, _], _ => rfl) sc_law_work (modL X G c m) (tl_cons (tf_law_way X G c m) (by decide) (tl_nil)) eq_law_work
theorem tf_law_older (X : K.In h) (G : h.Ns mainGlobals mg) (c : He.SaysD faL fnL K) (m : exL K = true) : TFok P w K mg base 1 "_law_older" 1 (F_law_older) := by
  obtain ⟨fd, F⟩ := (c.def_ 15 (d := mkD "_law_older" 68) rfl)
  exact def_of (k := 0) F (He.glo_ok X G (c.fact 15 (f := .glo "_law_older") rfl)) (fun _ _ _ _ _ _ us hl => match us, hl with | [_], _ => rfl) sc_law_older (modL X G c m) (tl_nil) eq_law_older
theorem tf_law_closed (X : K.In h) (G : h.Ns mainGlobals mg) (c : He.SaysD faL fnL K) (m : exL K = true) : TFok P w K mg base 2 "_law_closed" 7 (F_law_closed) := by
  obtain ⟨fd, F⟩ := (c.def_ 16 (d := mkD "_law_closed" 69) rfl)
  exact def_of (k := 1) F (He.glo_ok X G (c.fact 16 (f := .glo "_law_closed") rfl)) (fun _ _ _ _ _ _ us hl => match us, hl with | [_, _, _, _, _, _, _], _ => rfl) sc_law_closed (modL X G c m) (tl_cons (tf_law_older X G c m) (by decide) (tl_nil)) eq_law_closed
theorem tf_law_moment (X : K.In h) (G : h.Ns mainGlobals mg) (c : He.SaysD faL fnL K) (m : exL K = true) : TFok P w K mg base 4 "_law_moment" 4 (F_law_moment) := by
  obtain ⟨fd, F⟩ := (c.def_ 17 (d := mkD "_law_moment" 70) rfl)
  exact def_of (k := 3) F (He.glo_ok X G (c.fact 17 (f := .glo "_law_moment") rfl)) (fun _ _ _ _ _ _ us hl => match us, hl with | [_, _, _, _], _ => rfl) sc_law_moment (modL X G c m) (tl_cons (tf_law_goal X G c m) (by decide) (tl_cons (tf_law_begin X G c m) (by decide) (tl_cons (tf_law_work X G c m) (by decide) (tl_cons (tf_law_way X G c m) (by decide) (tl_cons (tf_law_closed X G c m) (by decide) (tl_nil)))))) eq_law_moment
theorem tf_law_open (X : K.In h) (G : h.Ns mainGlobals mg) (c : He.SaysD faL fnL K) (m : exL K = true) : TFok P w K mg base 5 "_law_open" 2 (F_law_open) := by
  obtain ⟨fd, F⟩ := (c.def_ 18 (d := mkD "_law_open" 71) rfl)
  exact def_of (k := 4) F (He.glo_ok X G (c.fact 18 (f := .glo "_law_open") rfl)) (fun _ _ _ _ _ _ us hl => match us, hl with | [_, _], _ => rfl) sc_law_open (modL X G c m) (tl_cons (tf_law_moment X G c m) (by decide) (tl_cons (tf_law_way X G c m) (by decide) (tl_nil))) eq_law_open
theorem tf_law_walk (X : K.In h) (G : h.Ns mainGlobals mg) (c : He.SaysD faL fnL K) (m : exL K = true) : TFok P w K mg base 6 "_law_walk" 3 (F_law_walk) := by
  obtain ⟨fd, F⟩ := (c.def_ 19 (d := mkD "_law_walk" 73) rfl)
  exact def_of (k := 5) F (He.glo_ok X G (c.fact 19 (f := .glo "_law_walk") rfl)) (fun _ _ _ _ _ _ us hl => match us, hl with | [_, _, _], _ => rfl) sc_law_walk (modL X G c m) (tl_cons (tf_law_start X G c m) (by decide) (tl_cons (tf_law_pick X G c m) (by decide) (tl_cons (tf_law_open X G c m) (by decide) (tl_cons (tf_law_taken X G c m) (by decide) (tl_cons (tf_law_moment X G c m) (by decide) (tl_nil)))))) eq_law_walk
theorem tf_law_inside (X : K.In h) (G : h.Ns mainGlobals mg) (c : He.SaysD faL fnL K) (m : exL K = true) : TFok P w K mg base 1 "_law_inside" 1 (F_law_inside) := by
  obtain ⟨fd, F⟩ := (c.def_ 20 (d := mkD "_law_inside" 72) rfl)
  exact def_of (k := 0) F (He.glo_ok X G (c.fact 20 (f := .glo "_law_inside") rfl)) (fun _ _ _ _ _ _ us hl => match us, hl with | [_], _ => rfl) sc_law_inside (modL X G c m) (tl_nil) eq_law_inside
theorem tf_law_log (X : K.In h) (G : h.Ns mainGlobals mg) (c : He.SaysD faL fnL K) (m : exL K = true) : TFok P w K mg base 5 "_law_log" 2 (F_law_log) := by
  obtain ⟨fd, F⟩ := (c.def_ 21 (d := mkD "_law_log" 74) rfl)
  exact def_of (k := 4) F (He.glo_ok X G (c.fact 21 (f := .glo "_law_log") rfl)) (fun _ _ _ _ _ _ us hl => match us, hl with | [_, _], _ => rfl) sc_law_log (modL X G c m) (tl_cons (tf_law_start X G c m) (by decide) (tl_cons (tf_law_moment X G c m) (by decide) (tl_cons (tf_law_inside X G c m) (by decide) (tl_nil)))) eq_law_log
theorem tf_law_lines (X : K.In h) (G : h.Ns mainGlobals mg) (c : He.SaysD faL fnL K) (m : exL K = true) : TFok P w K mg base 7 "_law_lines" 1 (F_law_lines) := by
  obtain ⟨fd, F⟩ := (c.def_ 22 (d := mkD "_law_lines" 75) rfl)
  exact def_of (k := 6) F (He.glo_ok X G (c.fact 22 (f := .glo "_law_lines") rfl)) (fun _ _ _ _ _ _ us hl => match us, hl with | [_], _ => rfl) sc_law_lines (modL X G c m) (tl_cons (tf_law_small X G c m) (by decide) (tl_cons (tf_law_taken X G c m) (by decide) (tl_cons (tf_law_pick X G c m) (by decide) (tl_cons (tf_law_walk X G c m) (by decide) (tl_cons (tf_law_log X G c m) (by decide) (tl_nil)))))) eq_law_lines
theorem tf_require_part (X : K.In h) (G : h.Ns mainGlobals mg) (c : He.SaysD faL fnL K) (m : exL K = true) : TFok P w K mg base 1 "require_part" 2 (F_require_part) := by
  obtain ⟨fd, F⟩ := (c.def_ 23 (d := mkD "require_part" 44) rfl)
  exact def_of (k := 0) F (He.glo_ok X G (c.fact 23 (f := .glo "require_part") rfl)) (fun _ _ _ _ _ _ us hl => match us, hl with | [_, _], _ => rfl) sc_require_part (modL X G c m) (tl_nil) eq_require_part
theorem tf_is_new (X : K.In h) (G : h.Ns mainGlobals mg) (c : He.SaysD faL fnL K) (m : exL K = true) : TFok P w K mg base 1 "is_new" 2 (F_is_new) := by
  obtain ⟨fd, F⟩ := (c.def_ 25 (d := mkD "is_new" 33) rfl)
  exact def_of (k := 0) F (He.glo_ok X G (c.fact 25 (f := .glo "is_new") rfl)) (fun _ _ _ _ _ _ us hl => match us, hl with | [_, _], _ => rfl) sc_is_new (modL X G c m) (tl_nil) eq_is_new
theorem tf_is_name (X : K.In h) (G : h.Ns mainGlobals mg) (c : He.SaysD faL fnL K) (m : exL K = true) : TFok P w K mg base 1 "is_name" 1 (F_is_name) := by
  obtain ⟨fd, F⟩ := (c.def_ 26 (d := mkD "is_name" 12) rfl)
  exact def_of (k := 0) F (He.glo_ok X G (c.fact 26 (f := .glo "is_name") rfl)) (fun _ _ _ _ _ _ us hl => match us, hl with | [_], _ => rfl) sc_is_name (modL X G c m) (tl_nil) eq_is_name
theorem tf_is_row (X : K.In h) (G : h.Ns mainGlobals mg) (c : He.SaysD faL fnL K) (m : exL K = true) : TFok P w K mg base 1 "is_row" 2 (F_is_row) := by
  obtain ⟨fd, F⟩ := (c.def_ 27 (d := mkD "is_row" 13) rfl)
  exact def_of (k := 0) F (He.glo_ok X G (c.fact 27 (f := .glo "is_row") rfl)) (fun _ _ _ _ _ _ us hl => match us, hl with | [_, _], _ => rfl) sc_is_row (modL X G c m) (tl_nil) eq_is_row
theorem tf_is_whole (X : K.In h) (G : h.Ns mainGlobals mg) (c : He.SaysD faL fnL K) (m : exL K = true) : TFok P w K mg base 1 "is_whole" 1 (F_is_whole) := by
  obtain ⟨fd, F⟩ := (c.def_ 28 (d := mkD "is_whole" 10) rfl)
  exact def_of (k := 0) F (He.glo_ok X G (c.fact 28 (f := .glo "is_whole") rfl)) (fun _ _ _ _ _ _ us hl => match us, hl with | [_], _ => rfl) sc_is_whole (modL X G c m) (tl_nil) eq_is_whole
theorem tf_is_within (X : K.In h) (G : h.Ns mainGlobals mg) (c : He.SaysD faL fnL K) (m : exL K = true) : TFok P w K mg base 2 "is_within" 3 (F_is_within) := by
  obtain ⟨fd, F⟩ := (c.def_ 29 (d := mkD "is_within" 11) rfl)
  exact def_of (k := 1) F (He.glo_ok X G (c.fact 29 (f := .glo "is_within") rfl)) (fun _ _ _ _ _ _ us hl => match us, hl with | [_, _, _], _ => rfl) sc_is_within (modL X G c m) (tl_cons (tf_is_whole X G c m) (by decide) (tl_nil)) eq_is_within
theorem tf_is_station_row (X : K.In h) (G : h.Ns mainGlobals mg) (c : He.SaysD faL fnL K) (m : exL K = true) : TFok P w K mg base 3 "is_station_row" 2 (F_is_station_row) := by
  obtain ⟨fd, F⟩ := (c.def_ 30 (d := mkD "is_station_row" 34) rfl)
  exact def_of (k := 2) F (He.glo_ok X G (c.fact 30 (f := .glo "is_station_row") rfl)) (fun _ _ _ _ _ _ us hl => match us, hl with | [_, _], _ => rfl) sc_is_station_row (modL X G c m) (tl_cons (tf_is_new X G c m) (by decide) (tl_cons (tf_is_name X G c m) (by decide) (tl_cons (tf_is_row X G c m) (by decide) (tl_cons (tf_is_within X G c m) (by decide) (tl_nil))))) eq_is_station_row
theorem tfw_require_stations (X : K.In h) (G : h.Ns mainGlobals mg) (c : He.SaysD faL fnL K) (m : exL K = true) : TFok P w K mg base 4 "first_wrong" 4 (F_first_wrong [(("is_station_row", 2), F_is_station_row)] noL) := by
  obtain ⟨fd, F⟩ := (c.def_ 24 (d := mkD "first_wrong" 14) rfl)
  exact def_ofE (k := 3) F (He.glo_ok X G (c.fact 24 (f := .glo "first_wrong") rfl)) (fun _ _ _ _ _ _ us hl => match us, hl with | [_, _, _, _], _ => rfl) sc_first_wrong (modL X G c m) (tl_nil) (meV ⟨(tf_is_station_row X G c m).mono (by decide), (He.glo_ok X G (c.fact 30 (f := .glo "is_station_row") rfl))⟩) (fun _ h => nomatch h) (eq_first_wrong _ _)
theorem tf_require_stations (X : K.In h) (G : h.Ns mainGlobals mg) (c : He.SaysD faL fnL K) (m : exL K = true) : TFok P w K mg base 5 "require_stations" 1 (F_require_stations) := by
  obtain ⟨fd, F⟩ := (c.def_ 31 (d := mkD "require_stations" 45) rfl)
  exact def_of (k := 4) F (He.glo_ok X G (c.fact 31 (f := .glo "require_stations") rfl)) (fun _ _ _ _ _ _ us hl => match us, hl with | [_], _ => rfl) sc_require_stations (modL X G c m) (tl_cons (tf_require_part X G c m) (by decide) (tl_cons (tfw_require_stations X G c m) (by decide) (tl_nil))) eq_require_stations
theorem tf_is_step (X : K.In h) (G : h.Ns mainGlobals mg) (c : He.SaysD faL fnL K) (m : exL K = true) : TFok P w K mg base 3 "is_step" 3 (F_is_step) := by
  obtain ⟨fd, F⟩ := (c.def_ 32 (d := mkD "is_step" 35) rfl)
  exact def_ofE (ce := ce_is_step) (k := 2) F (He.glo_ok X G (c.fact 32 (f := .glo "is_step") rfl)) (fun _ _ _ _ _ _ us hl => match us, hl with | [_, _, _], _ => rfl) sc_is_step (modL X G c m) (tl_cons (tf_is_name X G c m) (by decide) (tl_cons (tf_is_row X G c m) (by decide) (tl_cons (tf_is_within X G c m) (by decide) (tl_nil)))) (meDk) (fun _ h => nomatch h) eq_is_step
theorem tf_is_kind_row (X : K.In h) (G : h.Ns mainGlobals mg) (c : He.SaysD faL fnL K) (m : exL K = true) : TFok P w K mg base 4 "is_kind_row" 3 (F_is_kind_row) := by
  obtain ⟨fd, F⟩ := (c.def_ 33 (d := mkD "is_kind_row" 36) rfl)
  exact def_of (k := 3) F (He.glo_ok X G (c.fact 33 (f := .glo "is_kind_row") rfl)) (fun _ _ _ _ _ _ us hl => match us, hl with | [_, _, _], _ => rfl) sc_is_kind_row (modL X G c m) (tl_cons (tf_is_new X G c m) (by decide) (tl_cons (tf_is_name X G c m) (by decide) (tl_cons (tf_is_row X G c m) (by decide) (tl_cons (tf_is_step X G c m) (by decide) (tl_nil))))) eq_is_kind_row
theorem clo_require_kinds (X : K.In h) (G : h.Ns mainGlobals mg) (c : He.SaysD faL fnL K) (m : exL K = true) : CloOk P w K mg base 5 (lamsL 0) 2 G_require_kinds := by
  have ep : (lamsL 0).ps = (["row", "ahead"] : List Str) := by kernel_rfl
  have q := lam_ok (P := P) (w := w) (K := K) (mg := mg) (base := base) (t := lamsL 0) (N := NG_require_kinds) (C := cC) (B := cB) (T := TG_require_kinds) (e := {}) (k := 4) (n := 40) (NdefX.nscope_by (by kernel_rfl))
    (fun cl pm ctv c us hl => by
      rw [ep] at hl ⊢
      match us, hl with
      | [_, _], _ => kernel_rfl) (modL X G c m) (tl_cons (tf_is_kind_row X G c m) (by decide) tl_nil) MeOk.none rfl
  rw [eqG_require_kinds, ep] at q
  exact q
theorem tfw_require_kinds (X : K.In h) (G : h.Ns mainGlobals mg) (c : He.SaysD faL fnL K) (m : exL K = true) : TFok P w K mg base 6 "first_wrong" 4 (F_first_wrong [] (oneL (lamsL 0) 2 G_require_kinds)) := by
  obtain ⟨fd, F⟩ := (c.def_ 24 (d := mkD "first_wrong" 14) rfl)
  exact def_ofE (k := 5) F (He.glo_ok X G (c.fact 24 (f := .glo "first_wrong") rfl)) (fun _ _ _ _ _ _ us hl => match us, hl with | [_, _, _, _], _ => rfl) sc_first_wrong (modL X G c m) (tl_nil) (meL ((clo_require_kinds X G c m).mono (by decide))) (fun _ h => nomatch h) (eq_first_wrong _ _)
theorem tf_require_kinds (X : K.In h) (G : h.Ns mainGlobals mg) (c : He.SaysD faL fnL K) (m : exL K = true) (tb : ∀ p ∈ tfL, LamX.TabB base mg (He.cT K p).1 (He.cT K p).2) : TFok P w K mg base 7 "require_kinds" 2 (F_require_kinds lamsL) := by
  obtain ⟨fd, F⟩ := (c.def_ 34 (d := mkD "require_kinds" 46) rfl)
  exact def_ofE (ce := ce_require_kinds) (k := 6) F (He.glo_ok X G (c.fact 34 (f := .glo "require_kinds") rfl)) (fun _ _ _ _ _ _ us hl => match us, hl with | [_, _], _ => rfl) sc_require_kinds (modL X G c m) (tl_cons (tf_is_kind_row X G c m) (by decide) (tl_cons (tf_require_part X G c m) (by decide) (tl_cons (tfw_require_kinds X G c m) (by decide) (tl_nil)))) (meLam (tb ("require_kinds", none) (by simp [tfL]))) (fun li h => by cases h; exact ⟨rfl, rfl⟩) eq_require_kinds
theorem tf_is_order_row (X : K.In h) (G : h.Ns mainGlobals mg) (c : He.SaysD faL fnL K) (m : exL K = true) : TFok P w K mg base 3 "is_order_row" 3 (F_is_order_row) := by
  obtain ⟨fd, F⟩ := (c.def_ 35 (d := mkD "is_order_row" 37) rfl)
  exact def_of (k := 2) F (He.glo_ok X G (c.fact 35 (f := .glo "is_order_row") rfl)) (fun _ _ _ _ _ _ us hl => match us, hl with | [_, _, _], _ => rfl) sc_is_order_row (modL X G c m) (tl_cons (tf_is_within X G c m) (by decide) (tl_cons (tf_is_row X G c m) (by decide) (tl_cons (tf_is_name X G c m) (by decide) (tl_nil)))) eq_is_order_row
theorem clo_require_orders (X : K.In h) (G : h.Ns mainGlobals mg) (c : He.SaysD faL fnL K) (m : exL K = true) : CloOk P w K mg base 4 (lamsL 1) 2 G_require_orders := by
  have ep : (lamsL 1).ps = (["row", "ahead"] : List Str) := by kernel_rfl
  have q := lam_ok (P := P) (w := w) (K := K) (mg := mg) (base := base) (t := lamsL 1) (N := NG_require_orders) (C := cC) (B := cB) (T := TG_require_orders) (e := {}) (k := 3) (n := 40) (NdefX.nscope_by (by kernel_rfl))
    (fun cl pm ctv c us hl => by
      rw [ep] at hl ⊢
      match us, hl with
      | [_, _], _ => kernel_rfl) (modL X G c m) (tl_cons (tf_is_order_row X G c m) (by decide) tl_nil) MeOk.none rfl
  rw [eqG_require_orders, ep] at q
  exact q
theorem tfw_require_orders (X : K.In h) (G : h.Ns mainGlobals mg) (c : He.SaysD faL fnL K) (m : exL K = true) : TFok P w K mg base 5 "first_wrong" 4 (F_first_wrong [] (oneL (lamsL 1) 2 G_require_orders)) := by
  obtain ⟨fd, F⟩ := (c.def_ 24 (d := mkD "first_wrong" 14) rfl)
  exact def_ofE (k := 4) F (He.glo_ok X G (c.fact 24 (f := .glo "first_wrong") rfl)) (fun _ _ _ _ _ _ us hl => match us, hl with | [_, _, _, _], _ => rfl) sc_first_wrong (modL X G c m) (tl_nil) (meL ((clo_require_orders X G c m).mono (by decide))) (fun _ h => nomatch h) (eq_first_wrong _ _)
theorem tf_require_orders (X : K.In h) (G : h.Ns mainGlobals mg) (c : He.SaysD faL fnL K) (m : exL K = true) (tb : ∀ p ∈ tfL, LamX.TabB base mg (He.cT K p).1 (He.cT K p).2) : TFok P w K mg base 6 "require_orders" 3 (F_require_orders lamsL) := by
  obtain ⟨fd, F⟩ := (c.def_ 36 (d := mkD "require_orders" 47) rfl)
  exact def_ofE (ce := ce_require_orders) (k := 5) F (He.glo_ok X G (c.fact 36 (f := .glo "require_orders") rfl)) (fun _ _ _ _ _ _ us hl => match us, hl with | [_, _, _], _ => rfl) sc_require_orders (modL X G c m) (tl_cons (tf_is_order_row X G c m) (by decide) (tl_cons (tf_require_part X G c m) (by decide) (tl_cons (tfw_require_orders X G c m) (by decide) (tl_nil)))) (meLam (tb ("require_orders", none) (by simp [tfL]))) (fun li h => by cases h; exact ⟨rfl, rfl⟩) eq_require_orders
theorem tf_is_setup_row (X : K.In h) (G : h.Ns mainGlobals mg) (c : He.SaysD faL fnL K) (m : exL K = true) : TFok P w K mg base 3 "is_setup_row" 4 (F_is_setup_row) := by
  obtain ⟨fd, F⟩ := (c.def_ 37 (d := mkD "is_setup_row" 38) rfl)
  exact def_ofE (ce := ce_is_setup_row) (k := 2) F (He.glo_ok X G (c.fact 37 (f := .glo "is_setup_row") rfl)) (fun _ _ _ _ _ _ us hl => match us, hl with | [_, _, _, _], _ => rfl) sc_is_setup_row (modL X G c m) (tl_cons (tf_is_name X G c m) (by decide) (tl_cons (tf_is_row X G c m) (by decide) (tl_cons (tf_is_within X G c m) (by decide) (tl_nil)))) (meDk) (fun _ h => nomatch h) eq_is_setup_row
theorem clo_require_setups (X : K.In h) (G : h.Ns mainGlobals mg) (c : He.SaysD faL fnL K) (m : exL K = true) : CloOk P w K mg base 4 (lamsL 2) 2 G_require_setups := by
  have ep : (lamsL 2).ps = (["row", "ahead"] : List Str) := by kernel_rfl
  have q := lam_ok (P := P) (w := w) (K := K) (mg := mg) (base := base) (t := lamsL 2) (N := NG_require_setups) (C := cC) (B := cB) (T := TG_require_setups) (e := {}) (k := 3) (n := 40) (NdefX.nscope_by (by kernel_rfl))
    (fun cl pm ctv c us hl => by
      rw [ep] at hl ⊢
      match us, hl with
      | [_, _], _ => kernel_rfl) (modL X G c m) (tl_cons (tf_is_setup_row X G c m) (by decide) tl_nil) MeOk.none rfl
  rw [eqG_require_setups, ep] at q
  exact q
theorem tfw_require_setups (X : K.In h) (G : h.Ns mainGlobals mg) (c : He.SaysD faL fnL K) (m : exL K = true) : TFok P w K mg base 5 "first_wrong" 4 (F_first_wrong [] (oneL (lamsL 2) 2 G_require_setups)) := by
  obtain ⟨fd, F⟩ := (c.def_ 24 (d := mkD "first_wrong" 14) rfl)
  exact def_ofE (k := 4) F (He.glo_ok X G (c.fact 24 (f := .glo "first_wrong") rfl)) (fun _ _ _ _ _ _ us hl => match us, hl with | [_, _, _, _], _ => rfl) sc_first_wrong (modL X G c m) (tl_nil) (meL ((clo_require_setups X G c m).mono (by decide))) (fun _ h => nomatch h) (eq_first_wrong _ _)
theorem tf_require_setups (X : K.In h) (G : h.Ns mainGlobals mg) (c : He.SaysD faL fnL K) (m : exL K = true) (tb : ∀ p ∈ tfL, LamX.TabB base mg (He.cT K p).1 (He.cT K p).2) : TFok P w K mg base 6 "require_setups" 3 (F_require_setups lamsL) := by
  obtain ⟨fd, F⟩ := (c.def_ 38 (d := mkD "require_setups" 48) rfl)
  exact def_ofE (ce := ce_require_setups) (k := 5) F (He.glo_ok X G (c.fact 38 (f := .glo "require_setups") rfl)) (fun _ _ _ _ _ _ us hl => match us, hl with | [_, _, _], _ => rfl) sc_require_setups (modL X G c m) (tl_cons (tf_is_setup_row X G c m) (by decide) (tl_cons (tf_require_part X G c m) (by decide) (tl_cons (tfw_require_setups X G c m) (by decide) (tl_nil)))) (meLam (tb ("require_setups", none) (by simp [tfL]))) (fun li h => by cases h; exact ⟨rfl, rfl⟩) eq_require_setups
theorem tf_is_bound (X : K.In h) (G : h.Ns mainGlobals mg) (c : He.SaysD faL fnL K) (m : exL K = true) : TFok P w K mg base 3 "is_bound" 1 (F_is_bound) := by
  obtain ⟨fd, F⟩ := (c.def_ 39 (d := mkD "is_bound" 39) rfl)
  exact def_of (k := 2) F (He.glo_ok X G (c.fact 39 (f := .glo "is_bound") rfl)) (fun _ _ _ _ _ _ us hl => match us, hl with | [_], _ => rfl) sc_is_bound (modL X G c m) (tl_cons (tf_is_within X G c m) (by decide) (tl_cons (tf_is_row X G c m) (by decide) (tl_nil))) eq_is_bound
theorem tkPlan___init__ (X : K.In h) (G : h.Ns mainGlobals mg) (c : He.SaysD faL fnL K) (m : exL K = true) (tb : ∀ p ∈ tfL, LamX.TabB base mg (He.cT K p).1 (He.cT K p).2) : TMkK P w K mg base 9 "Plan" 4 ["setups", "faults", "spoils"] ((List.range 4).map ASrc.pos ++ (List.range 3).map ASrc.kw) (FPlan___init__ lamsL) := by
  obtain ⟨fd, F⟩ := (c.def_ 45 (d := mkM "Plan" "__init__" "Plan.__init__" 49 0) rfl)
  exact makeK_of (k := 7) (He.mkr_ok (c.fact 79 (f := .mkr "Plan") rfl)) (He.glo_ok X G (c.fact 45 (f := .glo "Plan") rfl)) F (fun _ _ _ _ _ _ us ws h1 h2 => match us, h1, ws, h2 with | [_, _, _, _, _], _, [_, _, _], _ => rfl) scPlan___init__ (modL X G c m) (tl_cons (tf_require_stations X G c m) (by decide) (tl_cons (tf_require_kinds X G c m tb) (by decide) (tl_cons (tf_is_within X G c m) (by decide) (tl_cons (tf_require_orders X G c m tb) (by decide) (tl_cons (tf_require_setups X G c m tb) (by decide) (tl_cons (tf_is_bound X G c m) (by decide) (tl_nil))))))) (meAt (atsL X G c m)) rfl rfl rfl eqPlan___init__
theorem tf_law_made (X : K.In h) (G : h.Ns mainGlobals mg) (c : He.SaysD faL fnL K) (m : exL K = true) (tb : ∀ p ∈ tfL, LamX.TabB base mg (He.cT K p).1 (He.cT K p).2) : TFok P w K mg base 10 "_law_made" 1 (F_law_made lamsL) := by
  obtain ⟨fd, F⟩ := (c.def_ 40 (d := mkD "_law_made" 59) rfl)
  exact def_ofE (ce := ce_law_made) (k := 9) F (He.glo_ok X G (c.fact 40 (f := .glo "_law_made") rfl)) (fun _ _ _ _ _ _ us hl => match us, hl with | [_], _ => rfl) sc_law_made (modL X G c m) (tl_nil) (meMkk ((tkPlan___init__ X G c m tb).mono (by decide))) (fun _ h => nomatch h) eq_law_made
theorem tf_strikes_in (X : K.In h) (G : h.Ns mainGlobals mg) (c : He.SaysD faL fnL K) (m : exL K = true) : TFok P w K mg base 1 "strikes_in" 1 (F_strikes_in) := by
  obtain ⟨fd, F⟩ := (c.def_ 41 (d := mkD "strikes_in" 41) rfl)
  exact def_of (k := 0) F (He.glo_ok X G (c.fact 41 (f := .glo "strikes_in") rfl)) (fun _ _ _ _ _ _ us hl => match us, hl with | [_], _ => rfl) sc_strikes_in (modL X G c m) (tl_nil) eq_strikes_in
theorem tf_is_within_bound (X : K.In h) (G : h.Ns mainGlobals mg) (c : He.SaysD faL fnL K) (m : exL K = true) : TFok P w K mg base 2 "is_within_bound" 2 (F_is_within_bound) := by
  obtain ⟨fd, F⟩ := (c.def_ 42 (d := mkD "is_within_bound" 42) rfl)
  exact def_ofE (ce := ce_is_within_bound) (k := 1) F (He.glo_ok X G (c.fact 42 (f := .glo "is_within_bound") rfl)) (fun _ _ _ _ _ _ us hl => match us, hl with | [_, _], _ => rfl) sc_is_within_bound (modL X G c m) (tl_cons (tf_strikes_in X G c m) (by decide) (tl_nil)) (meAt (atsL X G c m)) (fun _ h => nomatch h) eq_is_within_bound
theorem tfa_law_alike (X : K.In h) (G : h.Ns mainGlobals mg) (c : He.SaysD faL fnL K) (m : exL K = true) : ∀ j, TFok P w K mg base (1 + j) "_law_alike" 2 (F_law_alike_at j) := by
  intro j
  induction j with
  | zero =>
    obtain ⟨fd, F⟩ := (c.def_ 43 (d := mkD "_law_alike" 53) rfl)
    exact (tf_none F (He.glo_ok X G (c.fact 43 (f := .glo "_law_alike") rfl)) (fun _ _ _ _ _ _ us hl => match us, hl with | [_, _], _ => rfl) sc_law_alike rfl).mono (by omega)
  | succ j ih =>
    obtain ⟨fd, F⟩ := (c.def_ 43 (d := mkD "_law_alike" 53) rfl)
    exact def_of (k := 1 + j) F (He.glo_ok X G (c.fact 43 (f := .glo "_law_alike") rfl)) (fun _ _ _ _ _ _ us hl => match us, hl with | [_, _], _ => rfl) sc_law_alike (modL X G c m) (tl_cons (ih) (by omega) (tl_nil)) (eq_law_alike _)
theorem tf_law_alike (X : K.In h) (G : h.Ns mainGlobals mg) (c : He.SaysD faL fnL K) (m : exL K = true) : TFok P w K mg base 13 "_law_alike" 2 (F_law_alike) := tfa_law_alike X G c m 12
theorem factsL {f : Addr} (X : K.In h) (G : h.Ns mainGlobals mg) (hfa : mg ("law" : Str) = some (.ref f)) (c : He.SaysD faL fnL K) (m : exL K = true) :
    ∃ fd : FuncData, (∀ (s : Shared) (v : Value), BindsTo s fd ⟨[v], []⟩ [("script", v)]) ∧ ∀ base : Heap, K.In base → base.Ns mainGlobals mg → (∀ p ∈ tfL, LamX.TabB base mg (He.cT K p).1 (He.cT K p).2) → FnOk P w K mg base CX0 14 f fd ["script"] (spF K 1 (F_law_k38 lamsL)) := by
  obtain ⟨fd, F⟩ := (c.def_ 44 (d := mkD "law" 76) rfl)
  have e := hfa.symm.trans (He.glo_ok X G (c.fact 44 (f := .glo "law") rfl))
  cases e
  have b := FunD.bindsA (ps := ["script"]) F fun _ _ _ _ _ _ us hl => match us, hl with | [_], _ => rfl
  refine ⟨fd, fun s v => b s [v] rfl, fun base X' G' tb => ?_⟩
  exact law_of (k := 13) F sc_law (modL X G c m) (tl_cons (tf_law_lines X G c m) (by decide) (tl_cons (tf_law_made X G c m tb) (by decide) (tl_cons (tf_law_walk X G c m) (by decide) (tl_cons (tf_law_pick X G c m) (by decide) (tl_cons (tf_is_within_bound X G c m) (by decide) (tl_cons (tf_law_taken X G c m) (by decide) (tl_cons (tf_law_alike X G c m) (by decide) (tl_cons (tf_strikes_in X G c m) (by decide) (tl_nil))))))))) eq_law
end
theorem law_from (hF : ∀ l : Nat → LamT, (l 0).qual = "require_kinds.<locals>.<lambda>" → (l 1).qual = "require_orders.<locals>.<lambda>" → (l 2).qual = "require_setups.<locals>.<lambda>" → ∀ ns : List Int, ∃ h', F_law_k38 l [.loc 0] (start0 ns tsL) = some (.bl true, h')) : PySem.Challenge.rw_linesure_k38_strikes_within_the_bound.Holds := by
  w_on; o_law
  refine HandSHeadRun.head_any (r := PySem.W.OpenLaw.row PySem.Challenge.rw_linesure_k38_strikes_within_the_bound) (q := PySem.W.view (PySem.W.OpenLaw.row PySem.Challenge.rw_linesure_k38_strikes_within_the_bound).prog [76]) (H := hkL) (ob := obL) (M := 4000) (loose := looseL) (d := HandSHeadRun.topDef (PySem.W.OpenLaw.row PySem.Challenge.rw_linesure_k38_strikes_within_the_bound).prog 76) (kwd := []) obL_eq
    (by kernel_rfl) (fun s => by kernel_rfl) runL (by kernel_rfl) (by kernel_rfl) (by kernel_rfl) (by rfl) (by first | assumption | decide +kernel) (by decide +kernel) ⟨rfl, rfl, rfl, rfl, rfl, by decide +kernel⟩ ?hw ?hc
  case hw => w_witness2
  case hc =>
    refine LamX.walk_ofTsE (l := PySem.Challenge.rw_linesure_k38_strikes_within_the_bound) (n := 63) (k := 14) (x := "script") (CX := fun _ => L2.CX0) rfl (by decide) (by kernel_rfl) ⟨rfl, by decide, by decide⟩ ?F (fun _ _ _ _ _ z => z)
    intro w mg fa h Y G hmg0
    obtain ⟨K, KX, c0⟩ := Y
    have c : He.SaysD faL fnL K := c0.t.d
    have m : exL K = true := c0.more
    have hmg : mg ("law" : PySem.Str) = some (.ref fa) := by
      have e : (HandSHeadRun.topDef (PySem.W.OpenLaw.row PySem.Challenge.rw_linesure_k38_strikes_within_the_bound).prog 76).name = ("law" : PySem.Str) := by kernel_rfl
      rw [← e]
      exact hmg0
    obtain ⟨fd, hb, hF'⟩ := factsL (P := (PySem.Challenge.rw_linesure_k38_strikes_within_the_bound).prog) (w := w) KX G hmg c m
    have mem : ∀ q ∈ tfL.map (He.cT K), ∃ p ∈ tfL, He.cT K p = q := fun q hq => List.mem_map.mp hq
    have nd : (tsL.map fun p => (He.cT K p.1).2).Nodup := by
      unfold exL at m
      exact of_decide_eq_true m
    refine ⟨K, KX, fd, tfL.map (He.cT K), frzSp 1 (spF K 1 (F_law_k38 lamsL)), fun q hq => ?_, fun q hq => ?_, fun q hq => ?_, hb, fun H a ns _ _ hT hS => law_spT (ts := tsL) (hF lamsL (by kernel_rfl) (by kernel_rfl) (by kernel_rfl)) H a ns (fun p hp => ?_) nd hS, fun base X' G' tb => law_frz (hF' base X' G' fun p hp => tb _ (List.mem_map.mpr ⟨p, hp, rfl⟩))⟩
    · obtain ⟨p, hp, rfl⟩ := mem q hq
      exact c0.empty p hp
    · obtain ⟨p, hp, rfl⟩ := mem q hq
      exact c0.out p hp
    · obtain ⟨p, hp, rfl⟩ := mem q hq
      exact PySem.W.codeHd_of_K KX (c0.hd p hp)
    · refine hT (He.cT K p.1) (List.mem_map.mpr ⟨p.1, ?_, rfl⟩)
      have : tfL = tsL.map Prod.fst := rfl
      rw [this]
      exact List.mem_map.mpr ⟨p, hp, rfl⟩
end MP

/-! text SP1 -/
set_option Elab.async false
set_option linter.all false
set_option maxRecDepth 100000
set_option maxHeartbeats 4000000
namespace MP
open PySem PySem.Spec PyProof.Rows
open L2 hiding St
/-! ### draws -/
/-- the drawer stands at r -/
def Rw (r : Nat) (h : Hs) : Prop := ∃ (ns : List Int) (pos seed rest : Int), h[0]? = some (.frz ns) ∧ h[r]? = some (.lst [.loc 0, .int pos, .int seed, .int rest]) ∧ 0 ≤ pos ∧ r ≠ 0
theorem Rw.keep {r : Nat} {h h' : Hs} (w : Rw r h) (f : Fm [] h h') : Rw r h' := by
  obtain ⟨ns, pos, seed, rest, a, b, c⟩ := w
  exact ⟨ns, pos, seed, rest, f.get0 a, f.get0 b, c⟩
theorem Rw.app {r : Nat} {h : Hs} (w : Rw r h) (e : List AO) : Rw r (h ++ e) := w.keep ((Fm.refl [] h).app e)
theorem Rw.lt {r : Nat} {h : Hs} (w : Rw r h) : r < h.length := by obtain ⟨ns, pos, seed, rest, a, b, c⟩ := w; exact lt_of_get b
theorem Rw.set {r : Nat} {h : Hs} (w : Rw r h) {n : Nat} (o : AO) (hn : n ≠ r) (h0 : n ≠ 0) : Rw r (h.set n o) := by
  obtain ⟨ns, pos, seed, rest, a, b, c⟩ := w
  exact ⟨ns, pos, seed, rest, set_oth a h0, set_oth b hn, c⟩
/-- after a step that draws: only the drawer and new places are written -/
structure Gr (r : Nat) (h h' : Hs) : Prop where
  fm : Fm [r] h h'
  rw : Rw r h'
theorem Gr.refl {r : Nat} {h : Hs} (w : Rw r h) : Gr r h h := ⟨Fm.refl _ _, w⟩
theorem Gr.trans {r : Nat} {h h' h'' : Hs} (a : Gr r h h') (b : Gr r h' h'') : Gr r h h'' := ⟨a.fm.trans b.fm, b.rw⟩
theorem Gr.app {r : Nat} {h h' : Hs} (a : Gr r h h') (e : List AO) : Gr r h (h' ++ e) := ⟨a.fm.app e, a.rw.app e⟩
theorem Gr.keep {r : Nat} {h h' h'' : Hs} (a : Gr r h h') (b : Fm [] h' h'') : Gr r h h'' := ⟨a.fm.then0 b, a.rw.keep b⟩
theorem Gr.get {r l : Nat} {h h' : Hs} {o : AO} (a : Gr r h h') (e : h[l]? = some o) (n : l ≠ r) : h'[l]? = some o := a.fm.get e (by simpa using n)
theorem Gr.set {r : Nat} {h h' : Hs} (a : Gr r h h') (w : Rw r h) {n : Nat} (o : AO) (c : h.length ≤ n) : Gr r h (h'.set n o) := ⟨a.fm.set o (.inr c), a.rw.set o (by have := w.lt; omega) (by have := w.lt; omega)⟩

theorem taken_ok {r : Nat} {h : Hs} {many : Int} {Q : QE} (w : Rw r h) (h1 : 0 < many) (h2 : many < 1073741824) (q : ∀ v h', 0 ≤ v → v < many → Gr r h h' → Q (.int v) h') : wF F_law_taken [.loc r, .int many] h Q := by
  obtain ⟨ns, pos, seed, rest, e0, er, hp, hr⟩ := w
  have i0 := items_frz e0
  have er : Ls h r _ := er
  have ir := er.i; have jr := er.l; have lr := er.lt
  have l0 := lt_of_get e0
  have key : ∀ (pos' seed' rest' : Int), 0 ≤ pos' → Gr r h (h.set r (.lst [.loc 0, .int pos', .int seed', .int rest'])) := fun pos' seed' rest' hp' => ⟨(Fm.refl _ _).set _ (.inl (by simp)), ns, pos', seed', rest', set_oth e0 hr, set_get er, hp', hr⟩
  unfold F_law_taken
  refine wF_runK ?_
  unfold S_law_taken
  by_cases c1 : 0 < rest
  · simp [ir, jr, h1, h2, ixN, lr, hr, i0, c1]
    exact q _ _ (Int.emod_nonneg _ (by omega)) (Int.emod_lt_of_pos _ h1) (key _ _ _ hp)
  by_cases c2 : (ns.length : Int) < pos + 1
  · simp [ir, jr, h1, h2, ixN, lr, hr, i0, c1, c2]
    exact q _ _ (Int.emod_nonneg _ (by omega)) (Int.emod_lt_of_pos _ h1) (key _ _ _ (by omega))
  obtain ⟨cell, hc⟩ : ∃ c, atI (ns.map D.int) pos = some (.int c) := by
    obtain ⟨k, rfl⟩ := Int.eq_ofNat_of_zero_le hp
    refine ⟨ns[k]'(by omega), ?_⟩
    rw [atI_nat, List.getElem?_map, List.getElem?_eq_getElem (by omega)]
    rfl
  simp [ir, jr, h1, h2, ixN, lr, hr, i0, c1, c2, hc]
  split
  · exact q _ _ (Int.emod_nonneg _ (by omega)) (Int.emod_lt_of_pos _ h1) (key _ _ _ (by omega))
  · exact q _ _ (Int.emod_nonneg _ (by omega)) (Int.emod_lt_of_pos _ h1) (key _ _ _ (by omega))
/-- one of these -/
theorem pick_ok {r n : Nat} {h : Hs} {xs : List D} {Q : QE} (w : Rw r h) (e : itemsAt h n = some xs) (h1 : xs ≠ []) (h2 : xs.length < 1073741824) (q : ∀ d h', d ∈ xs → Gr r h h' → Q d h') (hn : n ≠ r) : wF F_law_pick [.loc r, .loc n] h Q := by
  have hl : 0 < xs.length := List.length_pos_iff.mpr h1
  unfold F_law_pick
  refine wF_runK ?_
  unfold S_law_pick
  simp [e]
  refine taken_ok w (by omega) (by omega) fun v h' v0 v1 g => ?_
  have e' : itemsAt h' n = some xs := by
    unfold itemsAt at e ⊢
    split at e
    · rename_i ys e0; rw [g.get e0 hn]; exact e
    · rename_i ys e0; rw [g.get e0 hn]; exact e
    · cases e
  obtain ⟨k, rfl⟩ := Int.eq_ofNat_of_zero_le v0
  have hk : k < xs.length := by omega
  simp [e', List.getElem?_eq_getElem hk]
  exact q _ _ (List.getElem_mem hk) g
end MP

/-! text SP2 -/
set_option Elab.async false
set_option linter.all false
set_option maxRecDepth 100000
set_option maxHeartbeats 4000000
namespace MP
open PySem PySem.Spec PyProof.Rows
open L2 hiding St
/-! ### text -/
def cs (x : Str) : List Nat := x.cps.toList
theorem cs_app (a b : Str) : cs (a ++ b) = cs a ++ cs b := by
  show (a.cps ++ b.cps).toList = _
  simp [cs]
theorem cs_len (a : Str) : a.length = (cs a).length := by
  show a.cps.size = a.cps.toList.length
  simp
theorem cs_ext {a b : Str} (h : cs a = cs b) : a = b := by
  cases a; cases b
  simp [cs] at h
  rw [h]
theorem cs_one (c : Nat) : cs ⟨#[c]⟩ = [c] := rfl
theorem fold_app (n : Nat) (x acc : Array Nat) : ((List.replicate n x).foldl (· ++ ·) acc).toList = acc.toList ++ (List.replicate n x.toList).flatten := by
  induction n generalizing acc with
  | zero => simp
  | succ n ih =>
    rw [List.replicate_succ, List.foldl_cons, ih, List.replicate_succ, List.flatten_cons]
    simp
theorem cs_mul1 (c : Nat) (n : Int) (hn : 0 ≤ n) : cs (Txt.mul ⟨#[c]⟩ n) = List.replicate n.toNat c := by
  unfold Txt.mul
  split
  · have : n = 0 := by omega
    subst this; rfl
  · split
    · rename_i h
      have : n = 1 := by
        have h' : (n == 1 || (1 : Nat) == 0) = true := h
        simpa using h'
      subst this; rfl
    · show ((List.replicate n.toNat #[c]).foldl (· ++ ·) #[]).toList = _
      rw [fold_app]
      simp
/-- letters alone -/
def Ltr (x : Str) : Prop := ∀ c ∈ cs x, 97 ≤ c ∧ c < 123
theorem Ltr.app {a b : Str} (ha : Ltr a) (hb : Ltr b) : Ltr (a ++ b) := fun c hc => by
  rw [cs_app] at hc
  rcases List.mem_append.mp hc with h | h
  · exact ha c h
  · exact hb c h
theorem Ltr.one {c : Nat} (h : 97 ≤ c ∧ c < 123) : Ltr ⟨#[c]⟩ := fun d hd => by
  rw [cs_one] at hd
  rw [List.mem_singleton.mp hd]
  exact h
theorem Ltr.mul {c : Nat} {n : Int} (h : 97 ≤ c ∧ c < 123) (hn : 0 ≤ n) : Ltr (Txt.mul ⟨#[c]⟩ n) := fun d hd => by
  rw [cs_mul1 c n hn] at hd
  rw [(List.mem_replicate.mp hd).2]
  exact h
theorem letters_cs : cs (Str.ofString "abcdefghijklmnopqrstuvwxyz") = (List.range 26).map (· + 97) := by decide +kernel
theorem letters_len : (Str.ofString "abcdefghijklmnopqrstuvwxyz").length = 26 := by decide +kernel
theorem letters_at {v : Int} (h0 : 0 ≤ v) (h1 : v < 26) : atI (Str.ofString "abcdefghijklmnopqrstuvwxyz").cps.toList v = some (v.toNat + 97) := by
  obtain ⟨k, rfl⟩ := Int.eq_ofNat_of_zero_le h0
  have e := letters_cs
  unfold cs at e
  rw [e, atI_nat, List.getElem?_map, List.getElem?_range (by omega)]
  simp
/-- a name as the laws draw it -/
structure Nm (x : Str) : Prop where
  ltr : Ltr x
  pos : 1 ≤ x.length
  top : x.length ≤ 8
/-- the j-th sign -/
theorem sign_inj {s i j : Nat} (hi : i < 26) (hj : j < 26) (h : (s + 7 * i) % 26 = (s + 7 * j) % 26) : i = j := by omega
theorem nodup_of_at {xs : List Str} {p s : Nat} (hl : xs.length ≤ 26) (h : ∀ (j : Nat) (x : Str), xs[j]? = some x → (cs x)[p]? = some ((s + 7 * j) % 26 + 97)) : xs.Nodup := by
  rw [List.nodup_iff_pairwise_ne, List.pairwise_iff_getElem]
  intro i j hi hj hij e
  have a := h i _ (List.getElem?_eq_getElem hi)
  have b := h j _ (List.getElem?_eq_getElem hj)
  rw [e, b] at a
  have := sign_inj (s := s) (i := j) (j := i) (by omega) (by omega) (by simpa using a)
  omega
/-- the j-th name's sign stands at p -/
def signAt (p s : Nat) (xs : List Str) : Prop := ∀ (j : Nat) (x : Str), xs[j]? = some x → (cs x)[p]? = some ((s + 7 * j) % 26 + 97)
theorem signAt.snoc {p s : Nat} {xs : List Str} {x : Str} (h : signAt p s xs) (e : (cs x)[p]? = some ((s + 7 * xs.length) % 26 + 97)) : signAt p s (xs ++ [x]) := by
  intro j y hy
  by_cases hj : j < xs.length
  · rw [List.getElem?_append_left hj] at hy; exact h j y hy
  · have hl := (List.getElem?_eq_some_iff.mp hy).1
    have : j = xs.length := by simp at hl; omega
    subst this
    simp at hy
    subst hy
    exact e
theorem names_ok {r : Nat} {h : Hs} {many : Int} {Q : QE} (w : Rw r h) (hm0 : 0 ≤ many) (hm1 : many ≤ 26)
    (q : ∀ (m : Nat) (xs : List Str) (h' : Hs), Gr r h h' → h.length ≤ m → Ls h' m (xs.map D.str) → (xs.length : Int) = many → xs.Nodup → (∀ x ∈ xs, Nm x) → Q (.loc m) h') : wF F_law_names [.loc r, .int many] h Q := by
  unfold F_law_names
  refine wF_runK ?_
  unfold S_law_names
  simp
  refine taken_ok w (by omega) (by omega) fun start h1 s0 s1 g1 => ?_
  have L1 := Ls.new h1 []
  have hm : h.length ≤ h1.length := g1.fm.len
  replace g1 := g1.app [.lst []]
  generalize h1.length = m at *
  generalize h1 ++ [AO.lst []] = h1 at *
  have hmr : m ≠ r := by have := w.lt; omega
  refine taken_ok g1.rw (by omega) (by omega) fun a h2 a0 a1 g2 => ?_
  simp [letters_at a0 a1, letters_len]
  refine taken_ok g2.rw (by omega) (by omega) fun a' h3 a0' a1' g3 => ?_
  have z1 : -1000 ≤ a' := by omega
  have z2 : a' ≤ 1000 := by omega
  simp [z1, z2]
  refine taken_ok g3.rw (by omega) (by omega) fun b h4 b0 b1 g4 => ?_
  simp [letters_at b0 b1, letters_len]
  refine taken_ok g4.rw (by omega) (by omega) fun b' h5 b0' b1' g5 => ?_
  have y1 : -1000 ≤ b' := by omega
  have y2 : b' ≤ 1000 := by omega
  simp [y1, y2]
  refine taken_ok g5.rw (by omega) (by omega) fun kind h6 k0 k1 g6 => ?_
  refine ⟨by omega, ?_⟩
  obtain ⟨head, hh⟩ : ∃ x, x = Txt.mul ⟨#[a.toNat + 97]⟩ a' := ⟨_, rfl⟩
  obtain ⟨tail, ht⟩ : ∃ x, x = Txt.mul ⟨#[b.toNat + 97]⟩ b' := ⟨_, rfl⟩
  have lh : Ltr head := hh ▸ Ltr.mul (by omega) a0'
  have lt : Ltr tail := ht ▸ Ltr.mul (by omega) b0'
  have eh : head.length ≤ 3 := by rw [cs_len, hh, cs_mul1 _ _ a0']; simp; omega
  have et : tail.length ≤ 3 := by rw [cs_len, ht, cs_mul1 _ _ b0']; simp; omega
  rw [← hh, ← ht]
  have Gz : Gr r h h6 := ((((g1.trans g2).trans g3).trans g4).trans g5).trans g6
  have Lz : Ls h6 m [] := ((((L1.keep g2.fm (by simp; omega)).keep g3.fm (by simp; omega)).keep g4.fm (by simp; omega)).keep g5.fm (by simp; omega)).keep g6.fm (by simp; omega)
  obtain ⟨I, hI⟩ : ∃ I : Nat → Rho → Hs → Prop, ∀ i ρ hx, I i ρ hx ↔ ∃ o6 o9 xs, ρ = [some (.loc r), some (.int many), some (.str "abcdefghijklmnopqrstuvwxyz"), some (.str head), some (.str tail), some (.int kind), o6, some (.int start), some (.loc m), o9] ∧ Gr r h hx ∧ Ls hx m (xs.map D.str) ∧ xs.length = i ∧ (∀ x ∈ xs, Nm x) ∧ signAt (if kind = 0 then head.length else 0) start.toNat xs := ⟨_, fun _ _ _ => Iff.rfl⟩
  refine wFor_inv I ((hI _ _ _).mpr ⟨none, none, [], rfl, Gz, Lz, rfl, by simp, fun j x z => by simp at z⟩) (fun i x ρ hx hi Ii => ?_) (fun ρ hx Ii => ?_)
  · obtain ⟨o6, o9, xs, e, G, L, hl, hN, hS⟩ := (hI _ _ _).mp Ii
    subst e
    obtain ⟨hi1, rfl⟩ := rangeD_at hi
    have v0 : 0 ≤ (start + 7 * (i : Int)) % 26 := Int.emod_nonneg _ (by omega)
    have v1 : (start + 7 * (i : Int)) % 26 < 26 := Int.emod_lt_of_pos _ (by omega)
    have sg : ((start + 7 * (i : Int)) % 26).toNat = (start.toNat + 7 * i) % 26 := by omega
    have L1 := L.l; have L2 := L.lt
    have q4 : xs.length < 16777216 := by omega
    simp [letters_at v0 v1, letters_len, L2, sg]
    have next : ∀ (x : Str) (hy : Hs) (o6 o9 : Option D), Gr r h hy → Ls hy m (xs.map D.str) → Nm x → (cs x)[if kind = 0 then head.length else 0]? = some ((start.toNat + 7 * i) % 26 + 97) → I (i + 1) [some (.loc r), some (.int many), some (.str "abcdefghijklmnopqrstuvwxyz"), some (.str head), some (.str tail), some (.int kind), o6, some (.int start), some (.loc m), o9] (hy.set m (.lst (xs.map D.str ++ [.str x]))) := by
      intro x hy o6 o9 G L hx e
      refine (hI _ _ _).mpr ⟨o6, o9, xs ++ [x], rfl, G.set w _ hm, by simpa using L.set (xs.map D.str ++ [.str x]), by simp [hl], fun y hy => ?_, ?_⟩
      · rcases List.mem_append.mp hy with hy | hy
        · exact hN y hy
        · rw [List.mem_singleton.mp hy]
          exact hx
      · refine hS.snoc ?_
        rw [hl]
        exact e
    by_cases hk : kind = 0
    · subst hk
      have q1 : head.length ≤ 16777215 := by omega
      have q2 : (head ++ Str.mk #[(start.toNat + 7 * i) % 26 + 97]).length = head.length + 1 := by rw [cs_len, cs_app, cs_one, cs_len head]; simp
      have q3 : head.length + 1 + tail.length ≤ 16777216 := by omega
      simp [q1, q2, q3, L1, q4, isLst_of L]
      refine next _ _ _ _ G L ⟨(lh.app (Ltr.one (c := (start.toNat + 7 * i) % 26 + 97) (by omega))).app lt, ?_, ?_⟩ ?_
      · rw [cs_len, cs_app, cs_app, cs_one]; simp; omega
      · rw [cs_len, cs_app, cs_app, cs_one]; rw [cs_len] at eh et; simp; omega
      · rw [if_pos rfl, cs_app, cs_app, cs_one, cs_len]
        simp
    · simp [hk, isLst_of L]
      refine taken_ok G.rw (by omega) (by omega) fun c hy c0 c1 gy => ?_
      simp [letters_at c0 c1, letters_len]
      refine taken_ok gy.rw (by omega) (by omega) fun c' hz c0' c1' gz => ?_
      have u1 : -1000 ≤ c' := by omega
      have u2 : c' ≤ 1000 := by omega
      have u3 : (Txt.mul (Str.mk #[c.toNat + 97]) c').length = c'.toNat := by rw [cs_len, cs_mul1 _ _ c0']; simp
      have u4 : 1 + c'.toNat ≤ 16777216 := by omega
      have Ly := (L.keep gy.fm (by simp; omega)).keep gz.fm (by simp; omega)
      simp [u1, u2, u3, u4, Ly.l, q4, isLst_of Ly]
      refine next _ _ _ _ ((G.trans gy).trans gz) Ly ⟨(Ltr.one (c := (start.toNat + 7 * i) % 26 + 97) (by omega)).app (Ltr.mul (by omega) c0'), ?_, ?_⟩ ?_
      · rw [cs_len, cs_app, cs_one]; simp
      · rw [cs_len, cs_app, cs_one, cs_mul1 _ _ c0']; simp; omega
      · rw [if_neg hk, cs_app, cs_one]; simp
  · obtain ⟨o6, o9, xs, e, G, L, hl, hN, hS⟩ := (hI _ _ _).mp Ii
    subst e
    rw [rangeD_len] at hl
    simp
    exact q m xs hx G hm L (by omega) (nodup_of_at (by omega) hS) hN
end MP

/-! text SP3 -/
set_option Elab.async false
set_option linter.all false
set_option maxRecDepth 100000
set_option maxHeartbeats 4000000
namespace MP
open PySem PySem.Spec PyProof.Rows
open L2 hiding St
/-! ### what is drawn, as data -/
structure Stn where
  name : Str
  room : Int
  life : Int
  change : Int
  repair : Int
def Stn.d (x : Stn) : D := .tup [.str x.name, .int x.room, .int x.life, .int x.change, .int x.repair]
structure Stp1 where
  at_ : Str
  work : Int
  back : Option Nat
def optN : Option Nat → D
  | none => .non
  | some n => .int n
def Stp1.d (x : Stp1) : D := .tup [.str x.at_, .int x.work, optN x.back]
structure Route where
  name : Str
  steps : List Stp1
def Route.d (x : Route) : D := .tup [.str x.name, .tup (x.steps.map Stp1.d)]
structure Order where
  phase : Int
  kind : Str
  lead : Int
def Order.d (x : Order) : D := .tup [.int x.phase, .str x.kind, .int x.lead]
structure Setup where
  at_ : Str
  one : Str
  other : Str
  cost : Int
def Setup.d (x : Setup) : D := .tup [.str x.at_, .str x.one, .str x.other, .int x.cost]
structure Pl where
  rows : List Stn
  routes : List Route
  period : Int
  orders : List Order
  setups : List Setup
  often : Int
  apart : Int
  most : Int
def Pl.d (p : Pl) : D := .tup [.tup (p.rows.map Stn.d), .tup (p.routes.map Route.d), .int p.period, .tup (p.orders.map Order.d), .tup (p.setups.map Setup.d), .tup [.int p.often, .int p.apart], .int p.most]

theorem pickN_ok {r : Nat} {h : Hs} (is : List Int) (lo hi : Int) {Q : QE} (w : Rw r h) (h1 : is ≠ []) (h2 : is.length < 1000) (hb : ∀ i ∈ is, lo ≤ i ∧ i ≤ hi) (q : ∀ i h', i ∈ is → lo ≤ i → i ≤ hi → Gr r h h' → Q (.int i) h') : wF F_law_pick [.loc r, .loc h.length] (h ++ [.lst (is.map D.int)]) Q := by
  refine pick_ok (w.app _) (Ls.new h _).i (by simpa using h1) (by simp; omega) (fun d h' hd g => ?_) (by have := w.lt; omega)
  obtain ⟨i, hi', rfl⟩ := List.mem_map.mp hd
  obtain ⟨a, b⟩ := hb i hi'
  exact q i h' hi' a b (((Gr.refl w).app _).trans g)
/-- a drawn station -/
structure StnOk (x : Stn) : Prop where
  room : 1 ≤ x.room ∧ x.room ≤ 4
  life : 0 ≤ x.life ∧ x.life ≤ 6
  change : 0 ≤ x.change ∧ x.change ≤ 3
  repair : 1 ≤ x.repair ∧ x.repair ≤ 4
  life4 : x.life = 0 ∨ 4 ≤ x.life
  zero : x.life = 0 → x.change = 0
theorem station_ok {r : Nat} {h : Hs} {name : Str} {Q : QE} (w : Rw r h) (q : ∀ (x : Stn) h', x.name = name → StnOk x → Gr r h h' → Q x.d h') : wF F_law_station [.loc r, .str name] h Q := by
  unfold F_law_station
  refine wF_runK ?_
  unfold S_law_station
  simp
  refine pickN_ok [0, 0, 0, 4, 5, 6] 0 6 w (by decide) (by decide) (by decide) fun life h1 hl4 l0 l1 g1 => ?_
  refine pickN_ok [1, 1, 2, 3, 4] 1 4 g1.rw (by decide) (by decide) (by decide) fun room h2 _ r0 r1 g2 => ?_
  have hl4 : life = 0 ∨ 4 ≤ life := by simp at hl4; omega
  simp
  split
  · rename_i hpos
    refine pickN_ok [0, 1, 2, 3] 0 3 g2.rw (by decide) (by decide) (by decide) fun change h3 _ c0 c1 g3 => ?_
    refine taken_ok g3.rw (by omega) (by omega) fun v h4 v0 v1 g4 => ?_
    simp
    exact q ⟨name, room, life, change, 1 + v⟩ h4 rfl ⟨⟨r0, r1⟩, ⟨l0, l1⟩, ⟨c0, c1⟩, by simp; omega, hl4, fun e => by simp at e; omega⟩ (((g1.trans g2).trans g3).trans g4)
  · refine taken_ok g2.rw (by omega) (by omega) fun v h4 v0 v1 g4 => ?_
    simp
    exact q ⟨name, room, life, 0, 1 + v⟩ h4 rfl ⟨⟨r0, r1⟩, ⟨l0, l1⟩, by simp, by simp; omega, hl4, fun _ => rfl⟩ ((g1.trans g2).trans g4)
/-- drawn steps -/
structure StepOk (names : List Str) (k : Nat) (x : Stp1) : Prop where
  at_ : x.at_ ∈ names
  work : 1 ≤ x.work ∧ x.work ≤ 4
  back : ∀ b, x.back = some b → b ≤ k
theorem steps_ok {r m : Nat} {h : Hs} {names : List Str} {most : Int} {Q : QE} (w : Rw r h) (L : Ls h m (names.map D.str)) (hm : m ≠ r) (hn : names ≠ []) (hn2 : names.length < 1000) (m0 : 0 < most) (m1 : most ≤ 100)
    (q : ∀ (xs : List Stp1) h', 1 ≤ xs.length → (xs.length : Int) ≤ most → (∀ (k : Nat) x, xs[k]? = some x → StepOk names k x) → Gr r h h' → Q (.tup (xs.map Stp1.d)) h') : wF F_law_steps [.loc r, .loc m, .int most] h Q := by
  unfold F_law_steps
  refine wF_runK ?_
  unfold S_law_steps
  simp
  have hmz : m ≠ h.length := by have := L.lt; omega
  have G0 : Gr r h (h ++ [.lst []]) := (Gr.refl w).app _
  have L0 := Ls.new h []
  refine taken_ok G0.rw (by omega) (by omega) fun n h1 n0 n1 g1 => ?_
  have hr := w.lt
  simp
  refine ⟨by omega, ?_⟩
  obtain ⟨I, hI⟩ : ∃ I : Nat → Rho → Hs → Prop, ∀ i ρ hx, I i ρ hx ↔ ∃ o4 o5, ∃ xs : List Stp1, ρ = [some (.loc r), some (.loc m), some (.int most), some (.loc h.length), o4, o5] ∧ Gr r h hx ∧ Ls hx h.length (xs.map Stp1.d) ∧ xs.length = i ∧ (∀ (k : Nat) x, xs[k]? = some x → StepOk names k x) := ⟨_, fun _ _ _ => Iff.rfl⟩
  refine wFor_inv I ((hI _ _ _).mpr ⟨none, none, [], rfl, G0.trans g1, L0.keep g1.fm (by simp; omega), rfl, by simp⟩) (fun i x ρ hx hi Ii => ?_) (fun ρ hx Ii => ?_)
  · obtain ⟨o4, o5, xs, e, G, Lx, hl, hS⟩ := (hI _ _ _).mp Ii
    subst e
    obtain ⟨hi1, rfl⟩ := rangeD_at hi
    simp
    have next : ∀ (b : Option Nat) (hy : Hs) (o4 : Option D), Gr r h hy → Ls hy h.length (xs.map Stp1.d) → (∀ c, b = some c → c ≤ i) →
        wF F_law_pick [D.loc r, D.loc m] hy fun x h1 => wF F_law_pick [D.loc r, D.loc h1.length] (h1 ++ [AO.lst [D.int 2, D.int 2, D.int 4]]) fun x_1 h2 => wF F_law_taken [D.loc r, x_1] h2 fun y h2 => wO (addD (D.int 1) y h2) fun x_2 h2 =>
          wO (match lstAt h2 h.length with
            | some xs => if xs.length < 16777216 then some (D.non, List.set h2 h.length (AO.lst (xs ++ [D.tup [x, x_2, optN b]]))) else none
            | none => none) fun x h1 => I (i + 1) [some (D.loc r), some (D.loc m), some (D.int most), some (D.loc h.length), o4, some (optN b)] h1 := by
      intro b hy o4 Gy Ly hb
      refine pick_ok Gy.rw ((L.keep Gy.fm (by simpa using hm)).i) (by simpa using hn) (by simp; omega) (fun d h2 hd g2 => ?_) hm
      obtain ⟨nm, hnm, rfl⟩ := List.mem_map.mp hd
      refine pickN_ok [2, 2, 4] 2 4 g2.rw (by decide) (by decide) (by decide) fun wk h3 _ w0 w1 g3 => ?_
      refine taken_ok g3.rw (by omega) (by omega) fun wv h4 v0 v1 g4 => ?_
      have Lz := ((Ly.keep g2.fm (by simp; omega)).keep g3.fm (by simp; omega)).keep g4.fm (by simp; omega)
      have q4 : xs.length < 16777216 := by omega
      simp [Lz.l, q4]
      refine (hI _ _ _).mpr ⟨_, _, xs ++ [⟨nm, 1 + wv, b⟩], rfl, (((Gy.trans g2).trans g3).trans g4).set w _ (Nat.le_refl _), by simpa [Stp1.d] using Lz.set (xs.map Stp1.d ++ [.tup [.str nm, .int (1 + wv), optN b]]), by simp [hl], fun k x hk => ?_⟩
      by_cases hkl : k < xs.length
      · rw [List.getElem?_append_left hkl] at hk; exact hS k x hk
      · have hl2 := (List.getElem?_eq_some_iff.mp hk).1
        have : k = xs.length := by simp at hl2; omega
        subst this
        simp at hk
        subst hk
        exact ⟨hnm, by simp; omega, fun c hc => by rw [hl]; exact hb c hc⟩
    refine taken_ok G.rw (by omega) (by omega) fun u hy u0 u1 gy => ?_
    have Ly := Lx.keep gy.fm (by simp; omega)
    simp
    split
    · refine taken_ok gy.rw (by omega) (by omega) fun v hz v0 v1 gz => ?_
      obtain ⟨b, rfl⟩ := Int.eq_ofNat_of_zero_le v0
      have Lz := Ly.keep gz.fm (by simp; omega)
      exact ⟨isLst_of Lz, next (some b) hz _ ((G.trans gy).trans gz) Lz fun c hc => by cases hc; omega⟩
    · exact ⟨isLst_of Ly, next none hy _ (G.trans gy) Ly fun c hc => by cases hc⟩
  · obtain ⟨o4, o5, xs, e, G, Lx, hl, hS⟩ := (hI _ _ _).mp Ii
    subst e
    rw [rangeD_len] at hl
    simp [Lx.i]
    exact q xs hx (by omega) (by omega) hS G
end MP

/-! text SP4 -/
set_option Elab.async false
set_option linter.all false
set_option maxRecDepth 100000
set_option maxHeartbeats 4000000
namespace MP
open PySem PySem.Spec PyProof.Rows
open L2 hiding St
/-- a drawn setup -/
structure SetupOk (names kinds : List Str) (x : Setup) : Prop where
  at_ : x.at_ ∈ names
  one : x.one ∈ kinds
  other : x.other ∈ kinds
  cost : 1 ≤ x.cost ∧ x.cost ≤ 3
  ne : x.one ≠ x.other
/-- text by text -/
def ltS (a b : Str) : Prop := ltCps a.cps.toList b.cps.toList = true
def SLx (x y : Setup) : Prop := ltS x.at_ y.at_ ∨ x.at_ = y.at_ ∧ (ltS x.one y.one ∨ x.one = y.one ∧ ltS x.other y.other)
theorem sortS_lt {xs : List Str} (nd : xs.Nodup) {i j : Nat} {a b : Str} (ha : (sortS xs)[i]? = some a) (hb : (sortS xs)[j]? = some b) (hij : i < j) : ltS a b := by
  obtain ⟨i1, ea⟩ := List.getElem?_eq_some_iff.mp ha
  obtain ⟨j1, eb⟩ := List.getElem?_eq_some_iff.mp hb
  have s := List.pairwise_iff_getElem.mp (sortS_sorted xs) i j i1 j1 hij
  have nd2 : (sortS xs).Nodup := (List.mergeSort_perm xs leS).nodup_iff.mpr nd
  have n := List.pairwise_iff_getElem.mp (List.nodup_iff_pairwise_ne.mp nd2) i j i1 j1 hij
  rw [ea, eb] at s n
  unfold ltS
  cases e : ltCps a.cps.toList b.cps.toList with
  | true => rfl
  | false => exact absurd (leS_anti s (by unfold leS; rw [e]; rfl)) n
def AtB (names kinds : List Str) (b : Nat) (x : Setup) : Prop := ∃ i j k, i * 10000 + j * 100 + k < b ∧ j < 64 ∧ k < 64 ∧ (sortS names)[i]? = some x.at_ ∧ (sortS kinds)[j]? = some x.one ∧ (sortS kinds)[k]? = some x.other
theorem AtB.mono {names kinds : List Str} {b c : Nat} {x : Setup} (h : AtB names kinds b x) (hb : b ≤ c) : AtB names kinds c x := let ⟨i, j, k, h1, h2⟩ := h; ⟨i, j, k, by omega, h2⟩
theorem AtB.lt {names kinds : List Str} (n1 : names.Nodup) (n2 : kinds.Nodup) {i j k : Nat} {x y : Setup} (h : AtB names kinds (i * 10000 + j * 100 + k) y) (hj : j < 64) (hk : k < 64) (e1 : (sortS names)[i]? = some x.at_) (e2 : (sortS kinds)[j]? = some x.one) (e3 : (sortS kinds)[k]? = some x.other) : SLx y x := by
  obtain ⟨i', j', k', hl, hj', hk', f1, f2, f3⟩ := h
  by_cases hi : i' < i
  · exact .inl (sortS_lt n1 f1 e1 hi)
  have : i' = i := by omega
  subst this
  refine .inr ⟨Option.some.inj (f1.symm.trans e1), ?_⟩
  by_cases hj : j' < j
  · exact .inl (sortS_lt n2 f2 e2 hj)
  have : j' = j := by omega
  subst this
  exact .inr ⟨Option.some.inj (f2.symm.trans e2), sortS_lt n2 f3 e3 (by omega)⟩
theorem setups_ok {r m n : Nat} {h : Hs} {names kinds : List Str} {Q : QE} (w : Rw r h) (L : Ls h m (names.map D.str)) (M : Ls h n (kinds.map D.str)) (hm : m ≠ r) (hn : n ≠ r) (l1 : names.length < 64) (l2 : kinds.length < 64) (nd1 : names.Nodup) (nd2 : kinds.Nodup)
    (q : ∀ (xs : List Setup) h', xs.length ≤ 20 → (∀ x ∈ xs, SetupOk names kinds x) → xs.Pairwise SLx → Gr r h h' → Q (.tup (xs.map Setup.d)) h') : wF F_law_setups [.loc r, .loc m, .loc n] h Q := by
  unfold F_law_setups
  refine wF_runK ?_
  unfold S_law_setups
  simp
  have hr := w.lt
  have lm := L.lt
  have ln := M.lt
  have G0 : Gr r h (h ++ [.lst []]) := (Gr.refl w).app _
  have L0 := Ls.new h []
  have hlt := L0.lt
  replace L := L.app [.lst []]; replace M := M.app [.lst []]
  generalize ef : h.length = f at *
  generalize h ++ [AO.lst []] = h0 at *
  -- what is known all along: the drawer, what is found, lists that stay
  obtain ⟨I, hI⟩ : ∃ I : List (Nat × List D) → Hs → Nat → Prop, ∀ A hx b, I A hx b ↔ ∃ xs : List Setup, Gr r h hx ∧ Ls hx f (xs.map Setup.d) ∧ xs.length ≤ b ∧ (∀ x ∈ xs, SetupOk names kinds x) ∧ (xs.Pairwise SLx ∧ ∀ x ∈ xs, AtB names kinds b x) ∧ ∀ p ∈ A, Ls hx p.1 p.2 ∧ p.1 ≠ r ∧ p.1 ≠ f := ⟨_, fun _ _ _ => Iff.rfl⟩
  refine wsort_strs L.i l1 fun h1 f1 S1 => ?_
  simp [S1.i]
  have I1 : I [(n, kinds.map D.str), (h0.length, (sortS names).map D.str)] h1 0 := (hI _ _ _).mpr ⟨[], G0.keep f1, L0.keep0 f1, by simp, by simp, ⟨List.Pairwise.nil, by simp⟩, fun p hp => by
    simp at hp
    rcases hp with rfl | rfl
    · exact ⟨M.keep0 f1, hn, by simp; omega⟩
    · exact ⟨S1, by simp; omega, by simp; omega⟩⟩
  generalize h0.length = k1 at *
  obtain ⟨J, hJ⟩ : ∃ J : Nat → Rho → Hs → Prop, ∀ i ρ hx, J i ρ hx ↔ ∃ o4 o5 o6, ρ = [some (.loc r), some (.loc m), some (.loc n), some (.loc f), o4, o5, o6] ∧ I [(n, kinds.map D.str), (k1, (sortS names).map D.str)] hx (i * 10000) := ⟨_, fun _ _ _ => Iff.rfl⟩
  refine wFor_inv J ((hJ _ _ _).mpr ⟨none, none, none, rfl, I1⟩) (fun i x ρ hx hi Ji => ?_) (fun ρ hx Ji => ?_)
  · obtain ⟨o4, o5, o6, e, Ii⟩ := (hJ _ _ _).mp Ji
    subst e
    obtain ⟨xs, G, Lx, hl, hS, hP, hA⟩ := (hI _ _ _).mp Ii
    have A1 := hA (n, kinds.map D.str) (by simp)
    have A2 := hA (k1, (sortS names).map D.str) (by simp)
    simp only at A1 A2
    rw [List.getElem?_map] at hi
    obtain ⟨at_, hat', rfl⟩ := Option.map_eq_some_iff.mp hi
    have hat := List.mem_of_getElem? hat'
    rw [sortS_mem] at hat
    have hix : i < names.length := by have := (List.getElem?_eq_some_iff.mp hat').1; rwa [sortS_len] at this
    simp
    refine ⟨A2.1.i, wsort_strs A1.1.i l2 fun h2 f2 S2 => ?_⟩
    have hk2 : k1 ≠ hx.length ∧ n ≠ hx.length := ⟨by have := A2.1.lt; omega, by have := A1.1.lt; omega⟩
    have hk3 : hx.length ≠ r ∧ hx.length ≠ f := ⟨by have := G.rw.lt; omega, by have := Lx.lt; omega⟩
    generalize hx.length = k2 at *
    obtain ⟨A, hAe⟩ : ∃ A : List (Nat × List D), A = [(n, kinds.map D.str), (k1, (sortS names).map D.str), (k2, (sortS kinds).map D.str)] := ⟨_, rfl⟩
    have I2 : I A h2 (i * 10000) := (hI _ _ _).mpr ⟨xs, G.keep f2, Lx.keep0 f2, hl, hS, hP, fun p hp => by
      subst hAe
      simp at hp
      rcases hp with rfl | rfl | rfl
      · exact ⟨A1.1.keep0 f2, A1.2⟩
      · exact ⟨A2.1.keep0 f2, A2.2⟩
      · exact ⟨S2, hk3⟩⟩
    simp [S2.i]
    obtain ⟨J2, hJ2⟩ : ∃ J : Nat → Rho → Hs → Prop, ∀ j ρ hx, J j ρ hx ↔ ∃ o5 o6, ρ = [some (.loc r), some (.loc m), some (.loc n), some (.loc f), some (.str at_), o5, o6] ∧ I A hx (i * 10000 + j * 100) := ⟨_, fun _ _ _ => Iff.rfl⟩
    refine wFor_inv J2 ((hJ2 _ _ _).mpr ⟨o5, o6, rfl, by simpa using I2⟩) (fun j y ρ hy hj Jj => ?_) (fun ρ hy Jj => ?_)
    · obtain ⟨o5, o6, e, Ij⟩ := (hJ2 _ _ _).mp Jj
      subst e
      obtain ⟨xs, G, Lx, hl, hS, hP, hA⟩ := (hI _ _ _).mp Ij
      have A1 := hA (n, kinds.map D.str) (by simp [hAe])
      have A3 := hA (k2, (sortS kinds).map D.str) (by simp [hAe])
      simp only at A1 A3
      rw [List.getElem?_map] at hj
      obtain ⟨one, hon', rfl⟩ := Option.map_eq_some_iff.mp hj
      have hon := List.mem_of_getElem? hon'
      rw [sortS_mem] at hon
      have hjx : j < kinds.length := by have := (List.getElem?_eq_some_iff.mp hon').1; rwa [sortS_len] at this
      simp
      refine ⟨A3.1.i, wsort_strs A1.1.i l2 fun h3 f3 S3 => ?_⟩
      have hk4 : hy.length ≠ r ∧ hy.length ≠ f := ⟨by have := G.rw.lt; omega, by have := Lx.lt; omega⟩
      generalize hy.length = k3 at *
      obtain ⟨B, hBe⟩ : ∃ B : List (Nat × List D), B = A ++ [(k3, (sortS kinds).map D.str)] := ⟨_, rfl⟩
      have I3 : I B h3 (i * 10000 + j * 100) := (hI _ _ _).mpr ⟨xs, G.keep f3, Lx.keep0 f3, hl, hS, hP, fun p hp => by
        subst hBe
        rcases List.mem_append.mp hp with hp | hp
        · have := hA p hp
          exact ⟨this.1.keep0 f3, this.2⟩
        · rw [List.mem_singleton.mp hp]
          exact ⟨S3, hk4⟩⟩
      simp [S3.i]
      obtain ⟨J3, hJ3⟩ : ∃ J : Nat → Rho → Hs → Prop, ∀ k ρ hx, J k ρ hx ↔ ∃ o6, ρ = [some (.loc r), some (.loc m), some (.loc n), some (.loc f), some (.str at_), some (.str one), o6] ∧ I B hx (i * 10000 + j * 100 + k) := ⟨_, fun _ _ _ => Iff.rfl⟩
      refine wFor_inv J3 ((hJ3 _ _ _).mpr ⟨o6, rfl, by simpa using I3⟩) (fun k z ρ hz hk Jk => ?_) (fun ρ hz Jk => ?_)
      · obtain ⟨o6, e, Ik⟩ := (hJ3 _ _ _).mp Jk
        subst e
        obtain ⟨xs, G, Lx, hl, hS, hP, hA⟩ := (hI _ _ _).mp Ik
        have A4 := hA (k3, (sortS kinds).map D.str) (by simp [hBe])
        simp only at A4
        rw [List.getElem?_map] at hk
        obtain ⟨other, hot', rfl⟩ := Option.map_eq_some_iff.mp hk
        have hot := List.mem_of_getElem? hot'
        rw [sortS_mem] at hot
        have hkx : k < kinds.length := by have := (List.getElem?_eq_some_iff.mp hot').1; rwa [sortS_len] at this
        have stay : ∀ (hq : Hs), Gr r hz hq → Ls hq f (xs.map Setup.d) → J3 (k + 1) [some (.loc r), some (.loc m), some (.loc n), some (.loc f), some (.str at_), some (.str one), some (.str other)] hq := fun hq Gq Lq =>
          (hJ3 _ _ _).mpr ⟨_, rfl, (hI _ _ _).mpr ⟨xs, G.trans Gq, Lq, by omega, hS, ⟨hP.1, fun x hx => (hP.2 x hx).mono (by omega)⟩, fun p hp => by
            have := hA p hp
            exact ⟨this.1.keep Gq.fm (by simpa using this.2.1), this.2⟩⟩⟩
        simp
        refine ⟨A4.1.i, ?_⟩
        split
        · exact stay hz (Gr.refl G.rw) Lx
        · rename_i hne
          refine taken_ok G.rw (by omega) (by omega) fun u h4 u0 u1 g4 => ?_
          have L4 := Lx.keep g4.fm (by simp; omega)
          simp
          split
          · refine ⟨isLst_of L4, taken_ok g4.rw (by omega) (by omega) fun v h5 v0 v1 g5 => ?_⟩
            have L5 := L4.keep g5.fm (by simp; omega)
            have q4 : xs.length < 16777216 := by omega
            simp [L5.l, q4]
            refine (hJ3 _ _ _).mpr ⟨_, rfl, (hI _ _ _).mpr ⟨xs ++ [⟨at_, one, other, 1 + v⟩], ((G.trans g4).trans g5).set w _ (by omega), by simpa [Setup.d] using L5.set (xs.map Setup.d ++ [.tup [.str at_, .str one, .str other, .int (1 + v)]]), by simp; omega, fun x hx => ?_, ⟨?_, fun x hx => ?_⟩, fun p hp => ?_⟩⟩
            · rcases List.mem_append.mp hx with hx | hx
              · exact hS x hx
              · rw [List.mem_singleton.mp hx]
                exact ⟨hat, hon, hot, by simp; omega, hne⟩
            · refine List.pairwise_append.mpr ⟨hP.1, List.pairwise_singleton _ _, fun y hy z hz => ?_⟩
              rw [List.mem_singleton.mp hz]
              exact (hP.2 y hy).lt nd1 nd2 (by omega) (by omega) hat' hon' hot'
            · rcases List.mem_append.mp hx with hx | hx
              · exact (hP.2 x hx).mono (by omega)
              · rw [List.mem_singleton.mp hx]
                exact ⟨i, j, k, by omega, by omega, by omega, hat', hon', hot'⟩
            · have := hA p hp
              exact ⟨((this.1.keep g4.fm (by simpa using this.2.1)).keep g5.fm (by simpa using this.2.1)).oth (by omega), this.2⟩
          · exact stay h4 g4 L4
      · obtain ⟨o6, e, Ik⟩ := (hJ3 _ _ _).mp Jk
        subst e
        obtain ⟨xs, G, Lx, hl, hS, hP, hA⟩ := (hI _ _ _).mp Ik
        have A4 := hA (k3, (sortS kinds).map D.str) (by simp [hBe])
        simp
        rw [List.length_map, sortS_len] at hl
        exact ⟨A4.1.i, (hJ2 _ _ _).mpr ⟨_, _, rfl, (hI _ _ _).mpr ⟨xs, G, Lx, by omega, hS, ⟨hP.1, fun x hx => (hP.2 x hx).mono (by rw [List.length_map, sortS_len]; omega)⟩, fun p hp => hA p (by simp [hBe, hp])⟩⟩⟩
    · obtain ⟨o5, o6, e, Ij⟩ := (hJ2 _ _ _).mp Jj
      subst e
      obtain ⟨xs, G, Lx, hl, hS, hP, hA⟩ := (hI _ _ _).mp Ij
      have A3 := hA (k2, (sortS kinds).map D.str) (by simp [hAe])
      simp
      rw [List.length_map, sortS_len] at hl
      exact ⟨A3.1.i, (hJ _ _ _).mpr ⟨_, _, _, rfl, (hI _ _ _).mpr ⟨xs, G, Lx, by omega, hS, ⟨hP.1, fun x hx => (hP.2 x hx).mono (by rw [List.length_map, sortS_len]; omega)⟩, fun p hp => hA p (by
        subst hAe
        simp at hp ⊢
        rcases hp with rfl | rfl <;> simp)⟩⟩⟩
  · obtain ⟨o4, o5, o6, e, Ii⟩ := (hJ _ _ _).mp Ji
    subst e
    obtain ⟨xs, G, Lx, hl, hS, hP, hA⟩ := (hI _ _ _).mp Ii
    have A2 := (hA (k1, (sortS names).map D.str) (by simp)).1
    simp [Lx.i, A2.i]
    rw [← List.map_take]
    exact q _ _ (by simp; omega) (fun x hx => hS x (List.mem_of_mem_take hx)) (hP.1.sublist (List.take_sublist _ _)) (G.app _)
end MP

/-! text SP5 -/
set_option Elab.async false
set_option linter.all false
set_option maxRecDepth 100000
set_option maxHeartbeats 4000000
namespace MP
open PySem PySem.Spec PyProof.Rows
open L2 hiding St
/-! ### a drawn plan -/
structure RouteOk (names : List Str) (x : Route) : Prop where
  nm : Nm x.name
  ne : x.steps ≠ []
  len : x.steps.length ≤ 5
  ok : ∀ (k : Nat) (y : Stp1), x.steps[k]? = some y → StepOk names k y
structure OrderOk (period : Int) (kinds : List Str) (x : Order) : Prop where
  phase : 0 ≤ x.phase ∧ x.phase < period
  kind : x.kind ∈ kinds
  lead : 1 ≤ x.lead ∧ x.lead ≤ 30
structure PlOk (p : Pl) : Prop where
  ne : p.rows ≠ []
  len : p.rows.length ≤ 4
  nd : (p.rows.map Stn.name).Nodup
  row : ∀ x ∈ p.rows, StnOk x ∧ Nm x.name
  kne : p.routes ≠ []
  klen : p.routes.length ≤ 4
  knd : (p.routes.map Route.name).Nodup
  route : ∀ x ∈ p.routes, RouteOk (p.rows.map Stn.name) x
  period : 1 ≤ p.period ∧ p.period ≤ 8
  olen : p.orders.length ≤ 5
  order : ∀ x ∈ p.orders, OrderOk p.period (p.routes.map Route.name) x
  slen : p.setups.length ≤ 20
  setup : ∀ x ∈ p.setups, SetupOk (p.rows.map Stn.name) (p.routes.map Route.name) x
  often : 0 ≤ p.often ∧ p.often ≤ 3
  apart : 1 ≤ p.apart ∧ p.apart ≤ 8
  most : 0 ≤ p.most ∧ p.most ≤ 2
  asc : p.setups.Pairwise SLx
/-- a drawn list: each thing by the draw of one item -/
theorem wLc_draw {α β : Type} {enc : β → D} {dec : α → D} {P : α → β → Prop} {r : Nat} {gd : Gd} {g : GM} {me : EM} {ρ0 : Rho} {as : List α} {h : Hs} {Q : Hs → Prop} (w : Rw r h) (hs : as.length < sizeLine) (hgd : ∀ h', Gr r h h' → gOk gd h')
    (step : ∀ (a : α) (h1 : Hs), a ∈ as → Gr r h h1 → wG g (dec a) ρ0 h1 (fun ρ1 h2 => Gr r h1 h2 ∧ wE me ρ1 h2 (fun y h3 => ∃ b, y = enc b ∧ P a b ∧ Gr r h2 h3)))
    (fin : ∀ (bs : List β) h', Gr r h h' → Ls h' h.length (bs.map enc) → bs.length = as.length → (∀ (i : Nat) a b, as[i]? = some a → bs[i]? = some b → P a b) → Q h') : wLc gd g bYes me ρ0 h.length (as.map dec) (h ++ [.lst []]) Q := by
  have hlt := w.lt
  refine wLc_inv (fun i acc h1 => ∃ bs : List β, Gr r h h1 ∧ acc = bs.map enc ∧ bs.length = i ∧ ∀ (j : Nat) a b, as[j]? = some a → bs[j]? = some b → P a b) (app_new h _) (by simpa using hs) ⟨[], (Gr.refl w).app _, rfl, rfl, by simp⟩ (fun i acc h1 ⟨bs, hi, _⟩ _ => hgd _ hi) (fun i x acc h1 hx ⟨bs, hi, ha, hl, hp⟩ he _ => ?_) (fun acc h1 ⟨bs, hi, ha, hl, hp⟩ he => ?_)
  · rw [List.getElem?_map] at hx
    cases ea : as[i]? with
    | none => rw [ea] at hx; cases hx
    | some a =>
      rw [ea] at hx
      cases hx
      refine (step a h1 (List.mem_of_getElem? ea) hi).imp fun ρ1 h2 ⟨F2, ws⟩ => ?_
      rw [wB_Yes, if_pos rfl]
      refine ws.imp fun y h3 ⟨b, ey, pb, F3⟩ => ?_
      have G3 := (hi.trans F2).trans F3
      refine ⟨F3.get (F2.get he (by omega)) (by omega), bs ++ [b], ?_, by rw [ha, ey]; simp, by simp [hl], fun j a' b' ja jb => ?_⟩
      · exact G3.set w _ (Nat.le_refl _)
      · by_cases hj : j < bs.length
        · rw [List.getElem?_append_left hj] at jb; exact hp j a' b' ja jb
        · have hl2 := (List.getElem?_eq_some_iff.mp jb).1
          have : j = bs.length := by simp at hl2; omega
          subst this
          simp at jb
          subst jb
          rw [hl, ea] at ja
          cases ja
          exact pb
  · subst ha
    rw [List.length_map] at hl
    exact fin bs h1 hi he hl hp
theorem orders_ok {r mk : Nat} {h : Hs} {kinds : List Str} {period leads many : Int} {ρ0 : Rho} {Q : Hs → Prop} (w : Rw r h) (M : Ls h mk (kinds.map D.str)) (hmk : mk ≠ r) (hk : kinds ≠ []) (hkl : kinds.length < 1000) (hp : 1 ≤ period ∧ period ≤ 100) (hl : 1 ≤ leads ∧ leads ≤ 99) (hm : 0 ≤ many ∧ many ≤ 50)
    {i0 i2 i3 i8 i12 : Nat} (e0 : ρ0[i0]? = some (some (.loc r))) (e2 : ρ0[i2]? = some (some (.loc mk))) (e3 : ρ0[i3]? = some (some (.int period))) (e8 : ρ0[i8]? = some (some (.int leads))) (n0 : i12 ≠ i0) (n2 : i12 ≠ i2) (n3 : i12 ≠ i3) (n8 : i12 ≠ i8)
    (fin : ∀ (os : List Order) h', Gr r h h' → Ls h' h.length (os.map Order.d) → (os.length : Int) = many → (∀ o ∈ os, 0 ≤ o.phase ∧ o.phase < period ∧ o.kind ∈ kinds ∧ 1 ≤ o.lead ∧ o.lead ≤ leads) → Q h') :
    wLc none (gVar i12) bYes (mTup (aCons (mCallF 2 F_law_taken (aCons (mVar i0) (aCons (mVar i3) aNil))) (aCons (mCallF 2 F_law_pick (aCons (mVar i0) (aCons (mVar i2) aNil))) (aCons (mOp2 addD (mC (.int 1)) (mCallF 2 F_law_taken (aCons (mVar i0) (aCons (mVar i8) aNil)))) aNil)))) ρ0 h.length (rangeD 0 1 many.toNat) (h ++ [.lst []]) Q := by
  unfold rangeD
  refine wLc_draw (P := fun (_ : Nat) (o : Order) => 0 ≤ o.phase ∧ o.phase < period ∧ o.kind ∈ kinds ∧ 1 ≤ o.lead ∧ o.lead ≤ leads) (enc := Order.d) w (by simp; omega) (fun h' g => trivial) (fun x h1 hx g1 => ?_) (fun os h' g L hl hp => fin os h' g L (by simp at hl; omega) fun o ho => ?_)
  · simp
    refine ⟨Gr.refl g1.rw, ?_⟩
    rw [List.getElem?_set_ne n0, e0, List.getElem?_set_ne n2, e2, List.getElem?_set_ne n3, e3, List.getElem?_set_ne n8, e8]
    simp
    refine taken_ok g1.rw (by omega) (by omega) fun ph h2 p0 p1 g2 => ?_
    refine pick_ok g2.rw ((M.keep g1.fm (by simpa using hmk)).keep g2.fm (by simpa using hmk)).i (by simpa using hk) (by simp; omega) (fun d h3 hd g3 => ?_) hmk
    obtain ⟨kd, hkd, rfl⟩ := List.mem_map.mp hd
    refine taken_ok g3.rw (by omega) (by omega) fun ld h4 l0 l1 g4 => ?_
    simp
    exact ⟨⟨ph, kd, 1 + ld⟩, rfl, ⟨p0, p1, hkd, by simp; omega, by simp; omega⟩, (g2.trans g3).trans g4⟩
  · obtain ⟨i, hi⟩ := List.getElem?_of_mem ho
    have hi' := (List.getElem?_eq_some_iff.mp hi).1
    exact hp i i o (by rw [List.getElem?_range (by simp at hl; omega)]) hi
theorem small_ok {r : Nat} {h : Hs} {Q : QE} (w : Rw r h) (q : ∀ (p : Pl) h', PlOk p → Gr r h h' → Q p.d h') : wF F_law_small [.loc r] h Q := by
  unfold F_law_small
  refine wF_runK ?_
  unfold S_law_small
  simp
  refine pickN_ok [1, 2, 2, 2, 3] 1 3 w (by decide) (by decide) (by decide) fun n1 h1 _ a1 b1 g1 => ?_
  refine names_ok g1.rw (by omega) (by omega) fun m names h2 g2 em L hnl hnd hnm => ?_
  refine pickN_ok [1, 1, 2, 2] 1 2 g2.rw (by decide) (by decide) (by decide) fun n2 h3 _ a2 b2 g3 => ?_
  refine names_ok g3.rw (by omega) (by omega) fun mk kinds h4 g4 emk M hkl hknd hknm => ?_
  refine pickN_ok [2, 3, 3, 4, 5] 2 5 g4.rw (by decide) (by decide) (by decide) fun period h5 _ a3 b3 g5 => ?_
  have hm : m ≠ r := by have := g1.rw.lt; omega
  have hmk : mk ≠ r := by have := g3.rw.lt; omega
  replace L := ((L.keep g3.fm (by simpa using hm)).keep g4.fm (by simpa using hm)).keep g5.fm (by simpa using hm)
  replace M := M.keep g5.fm (by simpa using hmk)
  have G := (((g1.trans g2).trans g3).trans g4).trans g5
  simp [L.i]
  refine wLc_draw (P := fun (nm : Str) (x : Stn) => x.name = nm ∧ StnOk x) (enc := Stn.d) G.rw (by simp; omega) (fun h' g => (L.keep g.fm (by simpa using hm)).i) (fun nm h6 hnm6 g6 => ?_) (fun st h6 g6 L6 hl6 hp6 => ?_)
  · simp
    exact ⟨Gr.refl g6.rw, station_ok g6.rw fun x h7 e ok g7 => ⟨x, rfl, ⟨e, ok⟩, g7⟩⟩
  have M6 := M.keep g6.fm (by simpa using hmk)
  have L' := L.keep g6.fm (by simpa using hm)
  have G6 := G.trans g6
  simp [L6.i]
  refine wLc_draw (P := fun (x y : Stn) => y.name = x.name ∧ (StnOk x → StnOk y)) (enc := Stn.d) (dec := Stn.d) G6.rw (by simp; omega) (fun h' g => (L6.keep g.fm (by simp; have := G.rw.lt; omega)).i) (fun x h7 hx g7 => ?_) (fun rows h7 g7 L7 hl7 hp7 => ?_)
  · simp [Stn.d]
    exact ⟨Gr.refl g7.rw, ⟨x.name, x.room, x.life, if 2 < x.change then 2 else x.change, if 2 < x.repair then 2 else x.repair⟩, ⟨rfl, rfl, rfl, rfl, rfl⟩, ⟨rfl, fun ok => ⟨ok.room, ok.life, by have := ok.change; simp only; split <;> omega, by have := ok.repair; simp only; split <;> omega, ok.life4, fun e => by have := ok.zero e; simp only; omega⟩⟩, Gr.refl g7.rw⟩
  have M7 := M6.keep g7.fm (by simpa using hmk)
  replace L' := L'.keep g7.fm (by simpa using hm)
  have G7 := G6.trans g7
  have hrows : rows.map Stn.name = names := by
    refine List.ext_getElem? fun i => ?_
    rw [List.getElem?_map]
    by_cases hi : i < rows.length
    · have e1 := List.getElem?_eq_getElem hi
      have e2 : st[i]? = some (st[i]'(by omega)) := List.getElem?_eq_getElem (by omega)
      have e3 : names[i]? = some (names[i]'(by omega)) := List.getElem?_eq_getElem (by omega)
      rw [e1, e3]
      have p1 := (hp6 _ _ _ e3 e2).1
      have p2 := (hp7 _ _ _ e2 e1).1
      simp [p2, p1]
    · rw [List.getElem?_eq_none (by omega), List.getElem?_eq_none (by omega)]; rfl
  have hrok : ∀ x ∈ rows, StnOk x := by
    intro x hx
    obtain ⟨i, hi⟩ := List.getElem?_of_mem hx
    have hi' := (List.getElem?_eq_some_iff.mp hi).1
    have e2 : st[i]? = some (st[i]'(by omega)) := List.getElem?_eq_getElem (by omega)
    have e3 : names[i]? = some (names[i]'(by omega)) := List.getElem?_eq_getElem (by omega)
    exact (hp7 _ _ _ e2 hi).2 (hp6 _ _ _ e3 e2).2
  simp [L7.i]
  -- the routes
  have G8 := G7.app [.lst []]
  have L8 := Ls.new h7 []
  have M8 := M7.app [.lst []]
  have N8 := L'.app [.lst []]
  have e8 : h.length ≤ h7.length := G7.fm.len
  have e8r : h7.length ≠ r := by have := G7.rw.lt; omega
  have e8m : h7.length ≠ m := by have := L'.lt; omega
  have e8k : h7.length ≠ mk := by have := M7.lt; omega
  generalize h7.length = f at *
  generalize h7 ++ [AO.lst []] = h8 at *
  refine ⟨_, M8.i, ?_⟩
  obtain ⟨I, hI⟩ : ∃ I : Nat → Rho → Hs → Prop, ∀ i ρ hx, I i ρ hx ↔ ∃ o6, ∃ xs : List Route, ρ = [some (.loc r), some (.loc m), some (.loc mk), some (.int period), some (.tup (rows.map Stn.d)), some (.loc f), o6, none, none, none, none, none, none] ∧ Gr r h hx ∧ Ls hx f (xs.map Route.d) ∧ Ls hx m (names.map D.str) ∧ Ls hx mk (kinds.map D.str) ∧ xs.map Route.name = kinds.take i ∧ (∀ x ∈ xs, RouteOk names x) := ⟨_, fun _ _ _ => Iff.rfl⟩
  refine wFor_inv I ((hI _ _ _).mpr ⟨none, [], rfl, G8, L8, N8, M8, rfl, by simp⟩) (fun i x ρ hx hi Ii => ?_) (fun ρ hx Ii => ?_)
  · obtain ⟨o6, xs, e, Gx, Fx, Lx, Mx, hkx, hS⟩ := (hI _ _ _).mp Ii
    subst e
    rw [List.getElem?_map] at hi
    cases ek : kinds[i]? with
    | none => rw [ek] at hi; cases hi
    | some nm =>
    rw [ek] at hi
    cases hi
    have hix := (List.getElem?_eq_some_iff.mp ek).1
    have hxl : xs.length = i := by have := congrArg List.length hkx; simp at this; omega
    simp
    refine ⟨Mx.i, isLst_of Fx, ?_⟩
    refine steps_ok Gx.rw Lx hm (by intro e; subst e; simp at hnl; omega) (by omega) (by omega) (by omega) fun ss hy hs1 hs2 hs3 gy => ?_
    simp
    refine wLc_draw (P := fun (x y : Stp1) => y.at_ = x.at_ ∧ y.back = x.back ∧ (1 ≤ x.work ∧ x.work ≤ 4 → 1 ≤ y.work ∧ y.work ≤ 4)) (enc := Stp1.d) (dec := Stp1.d) gy.rw (by simp; omega) (fun h' g => trivial) (fun x hz hxs gz => ?_) (fun ss2 hz gz Lz hlz hpz => ?_)
    · simp [Stp1.d]
      exact ⟨Gr.refl gz.rw, ⟨x.at_, if 2 < x.work then 2 else x.work, x.back⟩, ⟨rfl, rfl, rfl⟩, ⟨rfl, rfl, fun ok => by simp only; split <;> omega⟩, Gr.refl gz.rw⟩
    have F9 := (Fx.keep gy.fm (by simpa using e8r)).keep gz.fm (by simpa using e8r)
    have L9 := (Lx.keep gy.fm (by simpa using hm)).keep gz.fm (by simpa using hm)
    have M9 := (Mx.keep gy.fm (by simpa using hmk)).keep gz.fm (by simpa using hmk)
    have q4 : xs.length < 16777216 := by omega
    simp [Lz.i, F9.l, q4]
    refine (hI _ _ _).mpr ⟨_, xs ++ [⟨nm, ss2⟩], rfl, ((Gx.trans gy).trans gz).set w _ e8, by simpa [Route.d] using F9.set (xs.map Route.d ++ [.tup [.str nm, .tup (ss2.map Stp1.d)]]), L9.oth e8m, M9.oth e8k, ?_, fun x hx => ?_⟩
    · rw [List.map_append, hkx, List.take_add_one, ek]; rfl
    · rcases List.mem_append.mp hx with hx | hx
      · exact hS x hx
      · rw [List.mem_singleton.mp hx]
        refine ⟨hknm nm (List.mem_of_getElem? ek), by intro e; simp at e; subst e; simp at hlz; omega, by simp; omega, fun k y hk => ?_⟩
        have hk' := (List.getElem?_eq_some_iff.mp hk).1
        have e2 : ss[k]? = some (ss[k]'(by simp at hk'; omega)) := List.getElem?_eq_getElem _
        obtain ⟨p1, p2, p3⟩ := hpz _ _ _ e2 hk
        have s3 := hs3 _ _ e2
        exact ⟨by rw [p1]; exact s3.at_, p3 s3.work, fun b hb => s3.back b (by rw [← p2]; exact hb)⟩
  obtain ⟨o6, routes, e, Gx, Fx, Lx, Mx, hkx, hS⟩ := (hI _ _ _).mp Ii
  subst e
  rw [List.length_map, List.take_length] at hkx
  simp
  refine ⟨Mx.i, ?_⟩
  refine pickN_ok [1, 1, 1, 2, 2, 0, 3, 5] 0 5 Gx.rw (by decide) (by decide) (by decide) fun many h9 _ a4 b4 g9 => ?_
  have hne : kinds ≠ [] := by intro e; subst e; simp at hkl; omega
  have hrne : rows ≠ [] := by intro e; subst e; simp at hrows; subst hrows; simp at hnl; omega
  have tail : ∀ (os : List Order) (hz : Hs), Gr r hx hz → os.length ≤ 5 → (∀ o ∈ os, 0 ≤ o.phase ∧ o.phase < period ∧ o.kind ∈ kinds ∧ 1 ≤ o.lead ∧ o.lead ≤ 12) →
      wF F_law_pick [.loc r, .loc hz.length] (hz ++ [.lst [.int 0, .int 1, .int 1, .int 1]]) fun x h1 => wF F_law_pick [.loc r, .loc h1.length] (h1 ++ [.lst [.int 3, .int 4, .int 6, .int 8]]) fun x_1 h1 =>
        wO (match itemsAt h1 f with
          | some xs => some (.tup xs, h1)
          | none => none) fun x_2 h1 => wF F_law_setups [.loc r, .loc m, .loc mk] h1 fun x_3 h1 => wO (slO x_3 none (some 2) h1) fun x_4 h1 => wF F_law_pick [.loc r, .loc h1.length] (h1 ++ [.lst [.int 0, .int 0, .int 1]]) fun x_5 h1 =>
            Q (.tup [.tup (rows.map Stn.d), x_2, .int period, .tup (os.map Order.d), x_4, .tup [x, x_1], x_5]) h1 := by
    intro os hz gz hol hos
    refine pickN_ok [0, 1, 1, 1] 0 1 gz.rw (by decide) (by decide) (by decide) fun often hA _ a6 b6 gA => ?_
    refine pickN_ok [3, 4, 6, 8] 3 8 gA.rw (by decide) (by decide) (by decide) fun apart hB _ a7 b7 gB => ?_
    have gz := (gz.trans gA).trans gB
    have Fa := Fx.keep gz.fm (by simpa using e8r)
    have La := Lx.keep gz.fm (by simpa using hm)
    have Ma := Mx.keep gz.fm (by simpa using hmk)
    rw [Fa.i]
    simp
    refine setups_ok gB.rw La Ma hm hmk (by omega) (by omega) hnd hknd fun ss hC hss1 hss2 hss3 gC => ?_
    simp
    refine pickN_ok [0, 0, 1] 0 1 gC.rw (by decide) (by decide) (by decide) fun most hD _ a8 b8 gD => ?_
    have e : D.tup [.tup (rows.map Stn.d), .tup (routes.map Route.d), .int period, .tup (os.map Order.d), .tup ((ss.map Setup.d).take (min 2 ss.length)), .tup [.int often, .int apart], .int most] = (⟨rows, routes, period, os, ss.take (min 2 ss.length), often, apart, most⟩ : Pl).d := by
      simp [Pl.d]
    rw [e]
    refine q _ _ ?_ (((Gx.trans gz).trans gC).trans gD)
    exact {
      ne := hrne
      len := by have := congrArg List.length hrows; simp at this; show rows.length ≤ 4; omega
      nd := by show (rows.map Stn.name).Nodup; rw [hrows]; exact hnd
      row := fun x hx => ⟨hrok x hx, hnm _ (by rw [← hrows]; exact List.mem_map_of_mem hx)⟩
      kne := by intro e; have e : routes = [] := e; subst e; simp at hkx; first | exact hne hkx | exact hne hkx.symm
      klen := by have := congrArg List.length hkx; simp at this; show routes.length ≤ 4; omega
      knd := by show (routes.map Route.name).Nodup; rw [hkx]; exact hknd
      route := fun x hx => by show RouteOk (rows.map Stn.name) x; rw [hrows]; exact hS x hx
      period := ⟨by show 1 ≤ period; omega, by show period ≤ 8; omega⟩
      olen := by show os.length ≤ 5; omega
      order := fun o ho => by
        obtain ⟨p1, p2, p3, p4, p5⟩ := hos o ho
        exact ⟨⟨p1, p2⟩, by show o.kind ∈ routes.map Route.name; rw [hkx]; exact p3, ⟨p4, by omega⟩⟩
      slen := by show (ss.take _).length ≤ 20; simp; omega
      setup := fun x hx => by
        show SetupOk (rows.map Stn.name) (routes.map Route.name) x
        rw [hrows, hkx]
        exact hss2 x (List.mem_of_mem_take hx)
      often := ⟨a6, by show often ≤ 3; omega⟩
      apart := ⟨by show 1 ≤ apart; omega, b7⟩
      most := ⟨a8, by show most ≤ 2; omega⟩
      asc := hss3.sublist (List.take_sublist _ _) }
  simp
  split
  · refine pickN_ok [3, 5, 7, 9, 12] 3 12 g9.rw (by decide) (by decide) (by decide) fun leads h10 _ a5 b5 g10 => ?_
    refine ⟨by omega, ?_⟩
    have gA := g9.trans g10
    refine orders_ok (kinds := kinds) (period := period) (leads := leads) (many := many) g10.rw (Mx.keep gA.fm (by simpa using hmk)) hmk hne (by omega) (by omega) (by omega) (by omega) rfl rfl rfl rfl (by decide) (by decide) (by decide) (by decide) fun os h11 g11 L11 hol hos => ?_
    simp [L11.i]
    exact tail os h11 (gA.trans g11) (by omega) fun o ho => by
      obtain ⟨p1, p2, p3, p4, p5⟩ := hos o ho
      exact ⟨p1, p2, p3, p4, by omega⟩
  · refine ⟨by omega, ?_⟩
    refine orders_ok (kinds := kinds) (period := period) (leads := 3) (many := many) g9.rw (Mx.keep g9.fm (by simpa using hmk)) hmk hne (by omega) (by omega) (by omega) (by omega) rfl rfl rfl rfl (by decide) (by decide) (by decide) (by decide) fun os h11 g11 L11 hol hos => ?_
    simp [L11.i]
    exact tail os h11 (g9.trans g11) (by omega) fun o ho => by
      obtain ⟨p1, p2, p3, p4, p5⟩ := hos o ho
      exact ⟨p1, p2, p3, p4, by omega⟩
end MP

/-! text SP6 -/
set_option Elab.async false
set_option linter.all false
set_option maxRecDepth 100000
set_option maxHeartbeats 4000000
namespace MP
open PySem PySem.Spec PyProof.Rows
open L2 hiding St
/-! ### the line as data -/
structure Part where
  ord : Nat
  step : Nat
  age : Int
  again : Int
  tag : Option Int
def Part.d (x : Part) : D := .tup (.int x.ord :: .int x.step :: .int x.age :: .int x.again :: x.tag.toList.map D.int)
structure Bay where
  broken : Int
  busy : Int
  used : Int
  kind : Str
  hold : Option (Part × Int)
def holdD : Option (Part × Int) → D
  | none => .non
  | some (x, k) => .tup [x.d, .int k]
def Bay.ds (b : Bay) : List D := [.int b.broken, .int b.busy, .int b.used, .str b.kind, holdD b.hold]
structure Sta where
  phase : Int
  strikes : List Int
  bays : List Bay
  queues : List (List Part)
  gate : List Part
def queueD (q : List Part) : D := .tup (q.map Part.d)
def bayD (b : Bay) : D := .tup b.ds
def Sta.d (s : Sta) : D := .tup [.int s.phase, .tup (s.strikes.map D.int), .tup (s.bays.map bayD), .tup (s.queues.map queueD), .tup (s.gate.map Part.d)]
structure Row where
  word : Str
  part : Option Part
  at_ : Option Nat
  num : Int
def partO : Option Part → D
  | none => .non
  | some x => x.d
def Row.d (r : Row) : D := .tup [.str r.word, partO r.part, optN r.at_, .int r.num]
section
variable (h : Hs)
@[simp] theorem ixPl0 (p : Pl) : ixO p.d (.int 0) h = some (.tup (p.rows.map Stn.d), h) := by simp [Pl.d]
@[simp] theorem ixPl1 (p : Pl) : ixO p.d (.int 1) h = some (.tup (p.routes.map Route.d), h) := by simp [Pl.d]
@[simp] theorem ixPl2 (p : Pl) : ixO p.d (.int 2) h = some (.int p.period, h) := by simp [Pl.d]
@[simp] theorem ixPl3 (p : Pl) : ixO p.d (.int 3) h = some (.tup (p.orders.map Order.d), h) := by simp [Pl.d]
@[simp] theorem ixPl4 (p : Pl) : ixO p.d (.int 4) h = some (.tup (p.setups.map Setup.d), h) := by simp [Pl.d]
@[simp] theorem ixPl5 (p : Pl) : ixO p.d (.int 5) h = some (.tup [.int p.often, .int p.apart], h) := by simp [Pl.d]
@[simp] theorem ixPl6 (p : Pl) : ixO p.d (.int 6) h = some (.int p.most, h) := by simp [Pl.d]
@[simp] theorem ixStn0 (x : Stn) : ixO x.d (.int 0) h = some (.str x.name, h) := by simp [Stn.d]
@[simp] theorem ixStn1 (x : Stn) : ixO x.d (.int 1) h = some (.int x.room, h) := by simp [Stn.d]
@[simp] theorem ixStn2 (x : Stn) : ixO x.d (.int 2) h = some (.int x.life, h) := by simp [Stn.d]
@[simp] theorem ixStn3 (x : Stn) : ixO x.d (.int 3) h = some (.int x.change, h) := by simp [Stn.d]
@[simp] theorem ixStn4 (x : Stn) : ixO x.d (.int 4) h = some (.int x.repair, h) := by simp [Stn.d]
@[simp] theorem seqStn (x : Stn) : seqAt h x.d = some [.str x.name, .int x.room, .int x.life, .int x.change, .int x.repair] := rfl
@[simp] theorem ixStp0 (x : Stp1) : ixO x.d (.int 0) h = some (.str x.at_, h) := by simp [Stp1.d]
@[simp] theorem ixStp1 (x : Stp1) : ixO x.d (.int 1) h = some (.int x.work, h) := by simp [Stp1.d]
@[simp] theorem ixStp2 (x : Stp1) : ixO x.d (.int 2) h = some (optN x.back, h) := by simp [Stp1.d]
@[simp] theorem ixRoute0 (x : Route) : ixO x.d (.int 0) h = some (.str x.name, h) := by simp [Route.d]
@[simp] theorem ixRoute1 (x : Route) : ixO x.d (.int 1) h = some (.tup (x.steps.map Stp1.d), h) := by simp [Route.d]
@[simp] theorem ixOrder0 (x : Order) : ixO x.d (.int 0) h = some (.int x.phase, h) := by simp [Order.d]
@[simp] theorem ixOrder1 (x : Order) : ixO x.d (.int 1) h = some (.str x.kind, h) := by simp [Order.d]
@[simp] theorem ixOrder2 (x : Order) : ixO x.d (.int 2) h = some (.int x.lead, h) := by simp [Order.d]
@[simp] theorem ixSetup3 (x : Setup) : ixO x.d (.int 3) h = some (.int x.cost, h) := by simp [Setup.d]
@[simp] theorem ixPart0 (x : Part) : ixO x.d (.int 0) h = some (.int x.ord, h) := by simp [Part.d]
@[simp] theorem ixPart1 (x : Part) : ixO x.d (.int 1) h = some (.int x.step, h) := by simp [Part.d]
@[simp] theorem ixPart2 (x : Part) : ixO x.d (.int 2) h = some (.int x.age, h) := by simp [Part.d]
@[simp] theorem ixPart3 (x : Part) : ixO x.d (.int 3) h = some (.int x.again, h) := by simp [Part.d]
@[simp] theorem ixSta0 (x : Sta) : ixO x.d (.int 0) h = some (.int x.phase, h) := by simp [Sta.d]
@[simp] theorem ixSta1 (x : Sta) : ixO x.d (.int 1) h = some (.tup (x.strikes.map D.int), h) := by simp [Sta.d]
@[simp] theorem ixSta2 (x : Sta) : ixO x.d (.int 2) h = some (.tup (x.bays.map bayD), h) := by simp [Sta.d]
@[simp] theorem ixSta3 (x : Sta) : ixO x.d (.int 3) h = some (.tup (x.queues.map queueD), h) := by simp [Sta.d]
@[simp] theorem ixSta4 (x : Sta) : ixO x.d (.int 4) h = some (.tup (x.gate.map Part.d), h) := by simp [Sta.d]
@[simp] theorem seqSta (x : Sta) : seqAt h x.d = some [.int x.phase, .tup (x.strikes.map D.int), .tup (x.bays.map bayD), .tup (x.queues.map queueD), .tup (x.gate.map Part.d)] := rfl
@[simp] theorem ixBay0 (x : Bay) : ixO (bayD x) (.int 0) h = some (.int x.broken, h) := by simp [bayD, Bay.ds]
@[simp] theorem ixBay1 (x : Bay) : ixO (bayD x) (.int 1) h = some (.int x.busy, h) := by simp [bayD, Bay.ds]
@[simp] theorem ixBay2 (x : Bay) : ixO (bayD x) (.int 2) h = some (.int x.used, h) := by simp [bayD, Bay.ds]
@[simp] theorem ixBay3 (x : Bay) : ixO (bayD x) (.int 3) h = some (.str x.kind, h) := by simp [bayD, Bay.ds]
@[simp] theorem ixBay4 (x : Bay) : ixO (bayD x) (.int 4) h = some (holdD x.hold, h) := by simp [bayD, Bay.ds]
@[simp] theorem ixRow0 (x : Row) : ixO x.d (.int 0) h = some (.str x.word, h) := by simp [Row.d]
@[simp] theorem ixRow1 (x : Row) : ixO x.d (.int 1) h = some (partO x.part, h) := by simp [Row.d]
@[simp] theorem ixRow2 (x : Row) : ixO x.d (.int 2) h = some (optN x.at_, h) := by simp [Row.d]
@[simp] theorem ixRow3 (x : Row) : ixO x.d (.int 3) h = some (.int x.num, h) := by simp [Row.d]
@[simp] theorem seqRow (x : Row) : seqAt h x.d = some [.str x.word, partO x.part, optN x.at_, .int x.num] := rfl
@[simp] theorem optN_none : optN none = .non := rfl
@[simp] theorem optN_some (n : Nat) : optN (some n) = .int n := rfl
@[simp] theorem partO_none : partO none = .non := rfl
@[simp] theorem partO_some (x : Part) : partO (some x) = x.d := rfl
@[simp] theorem holdD_none : holdD none = .non := rfl
@[simp] theorem holdD_some (x : Part) (k : Int) : holdD (some (x, k)) = .tup [x.d, .int k] := rfl
@[simp] theorem isNon_hold (o : Option (Part × Int)) : (holdD o).isNon = o.isNone := by cases o <;> rfl
@[simp] theorem isNon_optN (o : Option Nat) : (optN o).isNon = o.isNone := by cases o <;> rfl
@[simp] theorem isNon_part (o : Option Part) : (partO o).isNon = o.isNone := by cases o <;> rfl
end
def dStn : Stn := ⟨⟨#[]⟩, 0, 0, 0, 0⟩
def dStp : Stp1 := ⟨⟨#[]⟩, 0, none⟩
def Pl.row (p : Pl) (k : Nat) : Stn := (p.rows[k]?).getD dStn
def Pl.routeOf (p : Pl) (kind : Str) : List Stp1 := ((p.routes.filter fun x => decide (x.name = kind)).map Route.steps).headD []
def Pl.kindOf (p : Pl) (x : Part) : Str := ((p.orders[x.ord]?).map Order.kind).getD ⟨#[]⟩
def Pl.way (p : Pl) (x : Part) : List Stp1 := p.routeOf (p.kindOf x)
def Pl.spot (p : Pl) (nm : Str) : Nat := ((List.range p.rows.length).filter fun k => decide ((p.row k).name = nm)).headD 0
def Pl.now (p : Pl) (x : Part) : Stp1 := ((p.way x)[x.step]?).getD dStp
def Pl.goal (p : Pl) (x : Part) : Nat := p.spot (p.now x).at_
def Pl.setup (p : Pl) (at_ one other : Str) : Int := ((p.setups.filter fun s => decide (s.at_ = at_ ∧ s.one = one ∧ s.other = other)).map Setup.cost).headD 0
theorem Pl.row_at {p : Pl} {k : Nat} (h : k < p.rows.length) : p.rows[k]? = some (p.row k) := by unfold Pl.row; rw [List.getElem?_eq_getElem h]; rfl
theorem headD_of {α : Type} {xs : List α} {d : α} (h : xs ≠ []) : xs[0]? = some (xs.headD d) := by cases xs with
  | nil => exact absurd rfl h
  | cons x xs => rfl
section
variable {p : Pl} {h : Hs} {Q : QE}
theorem route_ok {kind : Str} (hp : PlOk p) (hk : kind ∈ p.routes.map Route.name) (q : ∀ h', Fm [] h h' → Q (.tup ((p.routeOf kind).map Stp1.d)) h') : wF F_law_route [p.d, .str kind] h Q := by
  unfold F_law_route
  refine wF_runK ?_
  unfold S_law_route
  simp
  refine wLc_pureM (fun x : Route => decide (x.name = kind)) (fun x => .tup (x.steps.map Stp1.d)) (by have := hp.klen; simp; omega) (fun _ _ => trivial) (fun x h1 hx f => ?_) (fun h' f L => ?_)
  · simp
  · simp [L.i]
    have hne : (p.routes.filter fun x => decide (x.name = kind)) ≠ [] := by
      obtain ⟨x, hx, e⟩ := List.mem_map.mp hk
      intro z
      have : x ∈ p.routes.filter fun x => decide (x.name = kind) := List.mem_filter.mpr ⟨hx, by simpa using e⟩
      rw [z] at this; cases this
    unfold Pl.routeOf at q
    cases z : (p.routes.filter fun x => decide (x.name = kind)) with
    | nil => exact absurd z hne
    | cons y ys =>
      rw [z] at q
      simp
      exact q h' f
/-- a part of the line -/
structure PartOk (p : Pl) (x : Part) : Prop where
  ord : x.ord < p.orders.length
  step : x.step < (p.way x).length
theorem Pl.order_at {p : Pl} {x : Part} (h : x.ord < p.orders.length) : ∃ o, p.orders[x.ord]? = some o ∧ o.kind = p.kindOf x := by
  refine ⟨_, List.getElem?_eq_getElem h, ?_⟩
  unfold Pl.kindOf
  rw [List.getElem?_eq_getElem h]
  rfl
theorem Pl.kind_mem (hp : PlOk p) {x : Part} (h : x.ord < p.orders.length) : p.kindOf x ∈ p.routes.map Route.name := by
  obtain ⟨o, ho, e⟩ := Pl.order_at (p := p) h
  rw [← e]
  exact (hp.order o (List.mem_of_getElem? ho)).kind
theorem way_ok {x : Part} (hp : PlOk p) (hx : x.ord < p.orders.length) (q : ∀ h', Fm [] h h' → Q (.tup ((p.way x).map Stp1.d)) h') : wF F_law_way [p.d, x.d] h Q := by
  obtain ⟨o, ho, e⟩ := Pl.order_at (p := p) hx
  unfold F_law_way
  refine wF_runK ?_
  unfold S_law_way
  simp [ho, e]
  exact route_ok hp (Pl.kind_mem hp hx) q
theorem spot_ok {nm : Str} (hp : PlOk p) (hk : nm ∈ p.rows.map Stn.name) (q : ∀ h', Fm [] h h' → Q (.int (p.spot nm)) h') : wF F_law_spot [p.d, .str nm] h Q := by
  unfold F_law_spot
  refine wF_runK ?_
  unfold S_law_spot
  have hl := hp.len
  simp
  refine ⟨by omega, ?_⟩
  unfold rangeD
  simp
  refine wLc_pureM (dec := fun (k : Nat) => D.int k) (fun k : Nat => decide ((p.row k).name = nm)) (fun k => .int k) (by simp; omega) (fun _ _ => trivial) (fun k h1 hx f => ?_) (fun h' f L => ?_)
  · have := Pl.row_at (p := p) (k := k) (by simpa using hx)
    simp [this]
  · have hne : ((List.range p.rows.length).filter fun k => decide ((p.row k).name = nm)) ≠ [] := by
      obtain ⟨x, hx, e⟩ := List.mem_map.mp hk
      obtain ⟨k, hk⟩ := List.getElem?_of_mem hx
      have hk' := (List.getElem?_eq_some_iff.mp hk).1
      intro z
      have : k ∈ (List.range p.rows.length).filter fun k => decide ((p.row k).name = nm) := List.mem_filter.mpr ⟨by simpa using hk', by unfold Pl.row; rw [hk]; simpa using e⟩
      rw [z] at this; cases this
    unfold Pl.spot at q
    generalize ((List.range p.rows.length).filter fun k => decide ((p.row k).name = nm)) = l at *
    simp [L.i]
    exact ⟨_, headD_of hne, q h' f⟩
theorem Pl.way_at {x : Part} (h : x.step < (p.way x).length) : (p.way x)[x.step]? = some (p.now x) := by unfold Pl.now; rw [List.getElem?_eq_getElem h]; rfl
theorem Pl.routeOf_mem {kind : Str} (hk : kind ∈ p.routes.map Route.name) : ∃ x ∈ p.routes, x.steps = p.routeOf kind := by
  obtain ⟨x, hx, e⟩ := List.mem_map.mp hk
  have hm : x ∈ p.routes.filter fun x => decide (x.name = kind) := List.mem_filter.mpr ⟨hx, by simpa using e⟩
  unfold Pl.routeOf
  cases z : (p.routes.filter fun x => decide (x.name = kind)) with
  | nil => rw [z] at hm; cases hm
  | cons y ys => exact ⟨y, (List.mem_filter.mp (show y ∈ p.routes.filter fun x => decide (x.name = kind) by rw [z]; exact List.mem_cons_self)).1, rfl⟩
theorem Pl.way_steps (hp : PlOk p) {x : Part} (h : x.ord < p.orders.length) : p.way x ≠ [] ∧ (p.way x).length ≤ 5 ∧ ∀ (k : Nat) y, (p.way x)[k]? = some y → StepOk (p.rows.map Stn.name) k y := by
  obtain ⟨r, hr, e⟩ := Pl.routeOf_mem (p := p) (Pl.kind_mem hp h)
  have := hp.route r hr
  have e' : r.steps = p.way x := e
  exact ⟨by rw [← e']; exact this.ne, by rw [← e']; exact this.len, by rw [← e']; exact this.ok⟩
theorem Pl.now_mem (hp : PlOk p) {x : Part} (h : PartOk p x) : (p.now x).at_ ∈ p.rows.map Stn.name := ((Pl.way_steps hp h.ord).2.2 _ _ (Pl.way_at h.step)).at_
theorem goal_ok {x : Part} (hp : PlOk p) (hx : PartOk p x) (q : ∀ h', Fm [] h h' → Q (.int (p.goal x)) h') : wF F_law_goal [p.d, x.d] h Q := by
  unfold F_law_goal
  refine wF_runK ?_
  unfold S_law_goal
  simp
  refine way_ok hp hx.ord fun h1 f1 => ?_
  simp [Pl.way_at hx.step]
  exact spot_ok hp (Pl.now_mem hp hx) fun h2 f2 => q h2 (f1.trans f2)
theorem Nm.ok {x : Str} (h : Nm x) : PyData.strOk x = true := by
  unfold PyData.strOk
  rw [Array.all_eq_true]
  intro i hi
  have := h.ltr (x.cps[i]) (by unfold cs; simp)
  simp
  omega
theorem goal_lt (hp : PlOk p) {x : Part} (hx : PartOk p x) : p.goal x < p.rows.length := by
  unfold Pl.goal Pl.spot
  cases z : ((List.range p.rows.length).filter fun k => decide ((p.row k).name = (p.now x).at_)) with
  | nil => show 0 < _; exact List.length_pos_iff.mpr hp.ne
  | cons y ys =>
    have : y ∈ (List.range p.rows.length).filter fun k => decide ((p.row k).name = (p.now x).at_) := by rw [z]; exact List.mem_cons_self
    simpa using (List.mem_filter.mp this).1
theorem setup_ok {at_ one other : Str} (hp : PlOk p) (ha : PyData.strOk at_ = true) (ho : PyData.strOk one = true) (ht : PyData.strOk other = true) (q : ∀ h', Fm [] h h' → Q (.int (p.setup at_ one other)) h') : wF F_law_setup [p.d, .str at_, .str one, .str other] h Q := by
  unfold F_law_setup
  refine wF_runK ?_
  unfold S_law_setup
  have hl := hp.slen
  simp
  refine wLc_pureM (fun s : Setup => decide (s.at_ = at_ ∧ s.one = one ∧ s.other = other)) (fun s => .int s.cost) (by simp; omega) (fun _ _ => trivial) (fun s h1 hx f => ?_) (fun h' f L => ?_)
  · have so := hp.setup s hx
    have k1 : PyData.strOk s.at_ = true := by
      obtain ⟨y, hy, e⟩ := List.mem_map.mp so.at_
      rw [← e]; exact (hp.row y hy).2.ok
    have k2 : ∀ z, z ∈ p.routes.map Route.name → PyData.strOk z = true := by
      intro z hz
      obtain ⟨y, hy, e⟩ := List.mem_map.mp hz
      rw [← e]; exact (hp.route y hy).nm.ok
    have e := eq_sss (h := h1) k1 (k2 _ so.one) (k2 _ so.other) ha ho ht
    simp [Setup.d]
    rw [e]
    simp
  · unfold Pl.setup at q
    generalize (p.setups.filter fun s => decide (s.at_ = at_ ∧ s.one = one ∧ s.other = other)) = l at *
    have e := ne_nilL (h := h' ++ [.lst []]) (n := 1) (xs := l.map fun s => D.int s.cost) (L.app [.lst []]).i (Ls.new h' []).i (by omega) (by simp [plain])
    have Lq := (L.app [.lst []]).i
    simp [e]
    cases l with
    | nil =>
      simp
      exact q _ (f.app _)
    | cons y ys =>
      simp [Lq]
      exact q _ (f.app _)
/-! ### one part, one bay -/
def Part.older (x : Part) : Part := { x with age := x.age + 1 }
theorem older_ok {x : Part} (q : Q x.older.d h) : wF F_law_older [x.d] h Q := by
  unfold F_law_older
  refine wF_runK ?_
  unfold S_law_older
  have e : x.older.d = .tup (.int x.ord :: .int x.step :: .int (x.age + 1) :: .int x.again :: x.tag.toList.map D.int) := rfl
  rw [e] at q
  cases ht : x.tag with
  | none => rw [ht] at q; simp [Part.d, ht]; exact q
  | some n => rw [ht] at q; simp [Part.d, ht]; exact q
/-- a bay takes a part up -/
def Pl.begin (p : Pl) (k : Nat) (b : Bay) (x : Part) : Bay × List Row :=
  let st := p.row k
  let busy := if b.kind = ⟨#[]⟩ then 0 else p.setup st.name b.kind (p.kindOf x)
  let work := (p.now x).work
  if 0 < st.life ∧ st.life < b.used + work then ({ b with busy := busy + st.change, used := 0, kind := p.kindOf x, hold := some (x, work) }, [⟨"changed", some x, some k, st.change⟩, ⟨"took", some x, some k, busy + st.change⟩])
  else ({ b with busy := busy, kind := p.kindOf x, hold := some (x, work) }, [⟨"took", some x, some k, busy⟩])
theorem begin_ok {k l R : Nat} {b : Bay} {x : Part} {rows : List Row} (hp : PlOk p) (hk : k < p.rows.length) (hx : PartOk p x) (hb : PyData.strOk b.kind = true) (L : Ls h l b.ds) (M : Ls h R (rows.map Row.d)) (hlr : l ≠ R) (hr : rows.length ≤ 100000)
    (q : ∀ h', Fm [l, R] h h' → Ls h' l (p.begin k b x).1.ds → Ls h' R ((rows ++ (p.begin k b x).2).map Row.d) → Q .non h') : wF F_law_begin [p.d, .int k, .loc l, x.d, .loc R] h Q := by
  obtain ⟨o, ho, eo⟩ := Pl.order_at (p := p) hx.ord
  have hrow := Pl.row_at hk
  unfold F_law_begin
  refine wF_runK ?_
  unfold S_law_begin
  simp [hrow, ho, eo]
  refine way_ok hp hx.ord fun h1 f1 => ?_
  have L1 : Ls h1 l [.int b.broken, .int b.busy, .int b.used, .str b.kind, holdD b.hold] := L.keep0 f1
  have M1 := M.keep0 f1
  have z1 := L1.l; have z2 := L1.lt; have z3 := M1.l; have z8 := isLst_of M1; have z4 := M1.lt
  have z5 : rows.length < 16777216 := by omega
  have z6 : rows.length + 1 < 16777216 := by omega
  have hlr' : R ≠ l := fun e => hlr e.symm
  have emp : (Str.ofString "") = ⟨#[]⟩ := rfl
  have st := (hp.row _ (List.mem_of_getElem? hrow))
  have kok : PyData.strOk (p.kindOf x) = true := by
    obtain ⟨y, hy, e⟩ := List.mem_map.mp (Pl.kind_mem hp hx.ord)
    rw [← e]; exact (hp.route y hy).nm.ok
  by_cases hz : b.kind = ⟨#[]⟩
  · by_cases hl : 0 < (p.row k).life ∧ (p.row k).life < b.used + (p.now x).work
    · simp [Pl.way_at hx.step, L1.i, ixN, z1, z2, z3, z8, z4, hlr, hlr', z5, z6, emp, hz, hl]
      refine q _ (by repeat (first | exact f1.of0 | refine Fm.set ?_ _ (.inl (by simp)))) ?_ ?_
      · unfold Ls; simp [List.getElem?_set, hlr', z2, z4, Pl.begin, Bay.ds, hz, hl]
      · unfold Ls; simp [List.getElem?_set, hlr, z2, z4, Pl.begin, Row.d, partO, optN, hz, hl]
    · have hl' : ¬ (0 < (p.row k).life ∧ (p.row k).life < b.used + (p.now x).work) := hl
      simp only [not_and] at hl
      by_cases hq : 0 < (p.row k).life
      · have hl2 := hl hq
        simp [Pl.way_at hx.step, L1.i, ixN, z1, z2, z3, z8, z4, hlr, hlr', z5, z6, emp, hz, hq, hl2]
        refine q _ (by repeat (first | exact f1.of0 | refine Fm.set ?_ _ (.inl (by simp)))) ?_ ?_
        · unfold Ls; simp [List.getElem?_set, hlr', z2, z4, Pl.begin, Bay.ds, hz, hl']
        · unfold Ls; simp [List.getElem?_set, hlr, z2, z4, Pl.begin, Row.d, partO, optN, hz, hl']
      · simp [Pl.way_at hx.step, L1.i, ixN, z1, z2, z3, z8, z4, hlr, hlr', z5, z6, emp, hz, hq]
        refine q _ (by repeat (first | exact f1.of0 | refine Fm.set ?_ _ (.inl (by simp)))) ?_ ?_
        · unfold Ls; simp [List.getElem?_set, hlr', z2, z4, Pl.begin, Bay.ds, hz, hl']
        · unfold Ls; simp [List.getElem?_set, hlr, z2, z4, Pl.begin, Row.d, partO, optN, hz, hl']
  · simp [Pl.way_at hx.step, L1.i, ixN, z1, z2, z3, z8, z4, hlr, hlr', z5, z6, emp, hz]
    refine setup_ok hp st.2.ok hb kok fun h2 f2 => ?_
    replace f1 := f1.trans f2
    replace L1 := L1.keep0 f2; replace M1 := M1.keep0 f2
    replace z1 := L1.l; replace z2 := L1.lt; replace z3 := M1.l; replace z8 := isLst_of M1; replace z4 := M1.lt
    by_cases hl : 0 < (p.row k).life ∧ (p.row k).life < b.used + (p.now x).work
    · simp [L1.i, ixN, z1, z2, z3, z8, z4, hlr, hlr', z5, z6, emp, hz, hl]
      refine q _ (by repeat (first | exact f1.of0 | refine Fm.set ?_ _ (.inl (by simp)))) ?_ ?_
      · unfold Ls; simp [List.getElem?_set, hlr', z2, z4, Pl.begin, Bay.ds, hz, hl]
      · unfold Ls; simp [List.getElem?_set, hlr, z2, z4, Pl.begin, Row.d, partO, optN, hz, hl]
    · have hl' : ¬ (0 < (p.row k).life ∧ (p.row k).life < b.used + (p.now x).work) := hl
      simp only [not_and] at hl
      by_cases hq : 0 < (p.row k).life
      · have hl2 := hl hq
        simp [L1.i, ixN, z1, z2, z3, z8, z4, hlr, hlr', z5, z6, emp, hz, hq, hl2]
        refine q _ (by repeat (first | exact f1.of0 | refine Fm.set ?_ _ (.inl (by simp)))) ?_ ?_
        · unfold Ls; simp [List.getElem?_set, hlr', z2, z4, Pl.begin, Bay.ds, hz, hl']
        · unfold Ls; simp [List.getElem?_set, hlr, z2, z4, Pl.begin, Row.d, partO, optN, hz, hl']
      · simp [L1.i, ixN, z1, z2, z3, z8, z4, hlr, hlr', z5, z6, emp, hz, hq]
        refine q _ (by repeat (first | exact f1.of0 | refine Fm.set ?_ _ (.inl (by simp)))) ?_ ?_
        · unfold Ls; simp [List.getElem?_set, hlr', z2, z4, Pl.begin, Bay.ds, hz, hl']
        · unfold Ls; simp [List.getElem?_set, hlr, z2, z4, Pl.begin, Row.d, partO, optN, hz, hl']
theorem slPart4 (x : Part) : slO x.d (some 4) none h = some (.tup (x.tag.toList.map D.int), h) := by
  unfold Part.d
  cases ht : x.tag <;> simp
/-- a bay's moment of work; word: the strike -/
def Pl.work (p : Pl) (k : Nat) (b : Bay) (word : Str) : Bay × List Row :=
  if 0 < b.broken then ({ b with broken := b.broken - 1 }, [])
  else if 0 < b.busy then ({ b with busy := b.busy - 1 }, [])
  else match b.hold with
    | none => (b, [])
    | some (x, left) => if 0 < left then
        let used := b.used + (if 0 < (p.row k).life then 1 else 0)
        if left = 1 then
          if word = (p.row k).name ++ (Str.ofString "!") then ({ b with used := used, hold := some ({ x with step := (p.now x).back.getD 0, again := x.again + 1 }, 0) }, [⟨"spoiled", some x, some k, x.step⟩])
          else ({ b with used := used, hold := some ({ x with step := x.step + 1 }, 0) }, [⟨"finished", some x, some k, x.step⟩])
        else ({ b with used := used, hold := some (x, left - 1) }, [])
      else (b, [])
/-- what a bay holds: its part is in work or has come to the end of its step -/
def HoldOk (p : Pl) : Option (Part × Int) → Prop
  | none => True
  | some (x, left) => x.ord < p.orders.length ∧ 0 ≤ left ∧ (0 < left → x.step < (p.way x).length) ∧ x.step ≤ (p.way x).length
/-- a spoiled step has a step to go back to -/
def BackOk (p : Pl) (k : Nat) (b : Bay) (word : Str) : Prop := ¬ 0 < b.broken → ¬ 0 < b.busy → ∀ x, b.hold = some (x, 1) → word = (p.row k).name ++ (Str.ofString "!") → (p.now x).back ≠ none
theorem work_ok {k l R : Nat} {b : Bay} {word : Str} {rows : List Row} (hp : PlOk p) (hk : k < p.rows.length) (hx : HoldOk p b.hold) (hbk : BackOk p k b word) (L : Ls h l b.ds) (M : Ls h R (rows.map Row.d)) (hlr : l ≠ R) (hr : rows.length ≤ 100000)
    (q : ∀ h', Fm [l, R] h h' → Ls h' l (p.work k b word).1.ds → Ls h' R ((rows ++ (p.work k b word).2).map Row.d) → Q .non h') : wF F_law_work [p.d, .int k, .loc l, .str word, .loc R] h Q := by
  have hrow := Pl.row_at hk
  have st := (hp.row _ (List.mem_of_getElem? hrow))
  unfold F_law_work
  refine wF_runK ?_
  unfold S_law_work
  replace L : Ls h l [.int b.broken, .int b.busy, .int b.used, .str b.kind, holdD b.hold] := L
  have z1 := L.l; have z2 := L.lt; have z3 := M.l; have z8 := isLst_of M; have z4 := M.lt
  have z5 : rows.length < 16777216 := by omega
  have hlr' : R ≠ l := fun e => hlr e.symm
  by_cases c1 : 0 < b.broken
  · simp [L.i, ixN, z1, z2, z3, z8, z4, hlr, hlr', c1]
    refine q _ (by repeat (first | exact Fm.refl _ _ | refine Fm.set ?_ _ (.inl (by simp)))) ?_ ?_
    · unfold Ls; simp [List.getElem?_set, hlr', z2, z4, Pl.work, Bay.ds, c1]
    · simp [Pl.work, c1]; exact M.oth hlr
  by_cases c2 : 0 < b.busy
  · simp [L.i, ixN, z1, z2, z3, z8, z4, hlr, hlr', c1, c2]
    refine q _ (by repeat (first | exact Fm.refl _ _ | refine Fm.set ?_ _ (.inl (by simp)))) ?_ ?_
    · unfold Ls; simp [List.getElem?_set, hlr', z2, z4, Pl.work, Bay.ds, c1, c2]
    · simp [Pl.work, c1, c2]; exact M.oth hlr
  cases ch : b.hold with
  | none =>
    rw [ch] at z1
    have Li := L.i
    rw [ch] at Li
    simp [Li, ixN, z1, z2, z3, z8, z4, hlr, hlr', c1, c2]
    refine q _ (Fm.refl _ _) ?_ ?_
    · simpa [Pl.work, c1, c2, ch, Bay.ds] using L
    · simpa [Pl.work, c1, c2, ch] using M
  | some xl =>
  obtain ⟨x, left⟩ := xl
  rw [ch] at z1 hx
  have Li := L.i
  rw [ch] at Li
  obtain ⟨hord, hl0, hst, hst2⟩ := hx
  by_cases c3 : 0 < left
  · have hst' := hst c3
    by_cases c4 : left = 1
    · subst c4
      have e7 : 4 + x.tag.toList.length ≤ 16777216 := by cases x.tag <;> simp
      have e8 : (p.row k).name.length + 1 ≤ 16777216 := by have := st.2.top; omega
      have e9 : (Str.ofString "!").length = 1 := rfl
      by_cases c6 : word = (p.row k).name ++ (Str.ofString "!")
      · obtain ⟨bk, hbk'⟩ : ∃ bk, (p.now x).back = some bk := by
          cases z : (p.now x).back with
          | none => exact absurd z (hbk c1 c2 x ch c6)
          | some bk => exact ⟨bk, rfl⟩
        have c7 : decide (word = (p.row k).name ++ (Str.ofString "!")) = true := decide_eq_true c6
        simp [Li, ixN, z1, z2, z3, z8, z4, hlr, hlr', c1, c2, hrow, e8, e9, c7, z5]
        refine way_ok hp hord fun h2 f2 => ?_
        have f3 : Fm [l, R] h h2 := by
          refine Fm.then0 ?_ f2
          repeat (first | exact Fm.refl _ _ | refine Fm.set ?_ _ (.inl (by simp)))
        have L2 := f2.get0 (l := l) (o := .lst [D.int b.broken, D.int b.busy, D.int (b.used + if 0 < (p.row k).life then 1 else 0), D.str b.kind, D.tup [x.d, D.int 0]]) (by simp [List.getElem?_set, hlr', z2])
        have M2 := f2.get0 (l := R) (o := .lst (List.map Row.d rows ++ [D.tup [D.str (Str.ofString "spoiled"), x.d, D.int ↑k, D.int ↑x.step]])) (by simp [List.getElem?_set, hlr, z4])
        have L2 : Ls h2 l _ := L2
        have M2 : Ls h2 R _ := M2
        simp [Pl.way_at hst', hbk', slPart4, e7, L2.l, ixN]
        refine q _ (by repeat (first | exact f3 | refine Fm.set ?_ _ (.inl (by simp)))) ?_ ?_
        · unfold Ls; simp [List.getElem?_set, L2.lt, Pl.work, Bay.ds, c1, c2, ch, c6, hbk', Part.d]
        · have := M2.oth (m := l) (o := .lst [D.int b.broken, D.int b.busy, D.int (b.used + if 0 < (p.row k).life then 1 else 0), D.str b.kind, D.tup [D.tup (D.int ↑x.ord :: D.int ↑bk :: D.int x.age :: D.int (x.again + 1) :: List.map D.int x.tag.toList), D.int 0]]) hlr
          simpa [Pl.work, c1, c2, ch, c6, Row.d, partO, optN] using this
      · have c7 : decide (word = (p.row k).name ++ (Str.ofString "!")) = false := decide_eq_false c6
        simp [Li, ixN, z1, z2, z3, z8, z4, hlr, hlr', c1, c2, hrow, e8, e9, c7, z5, slPart4, e7]
        refine q _ (by repeat (first | exact Fm.refl _ _ | refine Fm.set ?_ _ (.inl (by simp)))) ?_ ?_
        · unfold Ls; simp [List.getElem?_set, hlr', z2, z4, Pl.work, Bay.ds, c1, c2, ch, c6, Part.d]
        · unfold Ls; simp [List.getElem?_set, hlr, z2, z4, Pl.work, Row.d, partO, optN, c1, c2, ch, c6]
    · simp [Li, ixN, z1, z2, z3, z8, z4, hlr, hlr', c1, c2, hrow, c3, c4]
      refine q _ (by repeat (first | exact Fm.refl _ _ | refine Fm.set ?_ _ (.inl (by simp)))) ?_ ?_
      · unfold Ls; simp [List.getElem?_set, hlr', z2, z4, Pl.work, Bay.ds, c1, c2, ch, c3, c4]
      · simp [Pl.work, c1, c2, ch, c3, c4]; exact (M.oth hlr)
  · simp [Li, ixN, z1, z2, z3, z8, z4, hlr, hlr', c1, c2, c3]
    refine q _ (Fm.refl _ _) ?_ ?_
    · simpa [Pl.work, c1, c2, ch, c3, Bay.ds] using L
    · simpa [Pl.work, c1, c2, ch, c3] using M
/-! ### the moment's end -/
def Bay.older (b : Bay) : Bay := { b with hold := b.hold.map fun q => (q.1.older, q.2) }
def Pl.closed (p : Pl) (phase : Int) (strikes : List Int) (bays : List Bay) (queues : List (List Part)) (gate : List Part) (struck : Bool) : Sta :=
  ⟨(phase + 1) % p.period, ((if struck then [1] else []) ++ strikes.map (· + 1)).filter fun n => decide (n < p.apart), bays.map Bay.older, queues.map fun q => q.map Part.older, gate.map Part.older⟩
/-- lists that stand at places, one for one -/
structure Pts {α : Type} (enc : α → List D) (h : Hs) (ls : List Nat) (xs : List α) : Prop where
  len : ls.length = xs.length
  at_ : ∀ (i : Nat) (l : Nat) (x : α), ls[i]? = some l → xs[i]? = some x → Ls h l (enc x)
theorem Pts.keep0 {α : Type} {enc : α → List D} {h h' : Hs} {ls : List Nat} {xs : List α} (a : Pts enc h ls xs) (f : Fm [] h h') : Pts enc h' ls xs := ⟨a.len, fun i l x e e' => (a.at_ i l x e e').keep0 f⟩
theorem Pts.get {α : Type} {enc : α → List D} {h : Hs} {ls : List Nat} {xs : List α} {i : Nat} {x : α} (a : Pts enc h ls xs) (e : xs[i]? = some x) : ∃ l, ls[i]? = some l ∧ Ls h l (enc x) := by
  have hi := (List.getElem?_eq_some_iff.mp e).1
  have e' : ls[i]? = some (ls[i]'(by rw [a.len]; exact hi)) := List.getElem?_eq_getElem _
  exact ⟨_, e', a.at_ i _ x e' e⟩
theorem olders_ok {i : Nat} {xs : List Part} {Q : Hs → Prop} {ρ0 : Rho} {gd : Gd} (hs : xs.length < sizeLine) (hgd : ∀ h', Fm [] h h' → gOk gd h') (hi : i < ρ0.length) (fin : ∀ h', Fm [] h h' → Ls h' h.length (xs.map fun x => x.older.d) → Q h') :
    wLc gd (gVar i) bYes (mCallF 1 F_law_older (aCons (mVar i) aNil)) ρ0 h.length (xs.map Part.d) (h ++ [.lst []]) Q := by
  refine wLc_pureM (fun _ => true) (fun x : Part => x.older.d) hs hgd (fun x h1 hx f => ?_) (fun h' f L => fin h' f (by rw [List.filter_eq_self.mpr (by simp)] at L; exact L))
  simp
  rw [List.getElem?_set_self hi]
  simp
  exact older_ok ⟨rfl, Fm.refl _ _⟩
theorem incs_ok {i : Nat} {ns : List Int} {Q : Hs → Prop} {ρ0 : Rho} {gd : Gd} (hs : ns.length < sizeLine) (hgd : ∀ h', Fm [] h h' → gOk gd h') (hi : i < ρ0.length) (fin : ∀ h', Fm [] h h' → Ls h' h.length ((ns.map (· + 1)).map D.int) → Q h') :
    wLc gd (gVar i) bYes (mOp2 addD (mVar i) (mC (.int 1))) ρ0 h.length (ns.map D.int) (h ++ [.lst []]) Q := by
  refine wLc_pureM (fun _ => true) (fun x : Int => .int (x + 1)) hs hgd (fun x h1 hx f => ?_) (fun h' f L => fin h' f (by rw [List.filter_eq_self.mpr (by simp)] at L; rw [List.map_map]; exact L))
  simp
  rw [List.getElem?_set_self hi]
  simp
theorem strikes_ok {ρ : Rho} {strikes : List Int} {struck : Bool} (e6 : ρ[6]? = some (some (.bl struck))) (e2 : ρ[2]? = some (some (.tup (strikes.map D.int)))) (hi : 12 < ρ.length) (n5 : strikes.length ≤ 100000)
    (q : ∀ m h', Fm [] h h' → h.length ≤ m → Ls h' m (((if struck then [1] else []) ++ strikes.map (· + 1)).map D.int) → Q (.loc m) h') :
    wE (mOp2 addD (mIf (bTru (mVar 6)) (mLst (aCons (mC (.int 1)) aNil)) (mLst aNil)) (mLc (iSeq (mVar 2)) (gVar 12) bYes (mOp2 addD (mVar 12) (mC (.int 1))) [12])) ρ h Q := by
  have e2' : ∀ hx : Hs, True := fun _ => trivial
  cases struck
  · simp [e6, e2]
    have L0 := Ls.new h []
    have f0 : Fm [] h (h ++ [.lst []]) := (Fm.refl _ _).app _
    rw [show h ++ [AO.lst [], AO.lst []] = (h ++ [AO.lst []]) ++ [AO.lst []] by simp, show h.length + 1 = (h ++ [AO.lst []]).length by simp]
    generalize hm : h.length = m at *
    generalize h ++ [AO.lst []] = h1 at *
    refine incs_ok (by simp; omega) (fun _ _ => trivial) (by simpa using hi) fun h2 f2 L2 => ?_
    have a1 := L0.keep0 f2
    have b1 : (0 : Nat) + strikes.length ≤ 16777216 := by omega
    simp [a1.l, L2.l]
    rw [if_pos (by omega)]
    simp
    exact q _ _ ((f0.trans f2).app _) (by rw [← hm]; exact (f0.trans f2).len) (by simpa using Ls.new h2 ((strikes.map (· + 1)).map D.int))
  · simp [e6, e2]
    have L0 := Ls.new h [.int 1]
    have f0 : Fm [] h (h ++ [.lst [.int 1]]) := (Fm.refl _ _).app _
    rw [show h ++ [AO.lst [.int 1], AO.lst []] = (h ++ [AO.lst [.int 1]]) ++ [AO.lst []] by simp, show h.length + 1 = (h ++ [AO.lst [.int 1]]).length by simp]
    generalize hm : h.length = m at *
    generalize h ++ [AO.lst [.int 1]] = h1 at *
    refine incs_ok (by simp; omega) (fun _ _ => trivial) (by simpa using hi) fun h2 f2 L2 => ?_
    have a1 := L0.keep0 f2
    simp [a1.l, L2.l]
    rw [if_pos (by omega)]
    simp
    exact q _ _ ((f0.trans f2).app _) (by rw [← hm]; exact (f0.trans f2).len) (by simpa using Ls.new h2 (.int 1 :: (strikes.map (· + 1)).map D.int))
theorem closed_ok {B C S : Nat} {bl ql : List Nat} {phase : Int} {strikes : List Int} {bays : List Bay} {queues : List (List Part)} {gate : List Part} {struck : Bool} (hp : PlOk p) (LB : Ls h B (bl.map D.loc)) (PB : Pts Bay.ds h bl bays) (LC : Ls h C (ql.map D.loc)) (PC : Pts (fun q => q.map Part.d) h ql queues)
    (LS : Ls h S (gate.map Part.d)) (n1 : bays.length ≤ 1000) (n2 : queues.length ≤ 1000) (n3 : ∀ q ∈ queues, q.length ≤ 10000000) (n4 : gate.length ≤ 100000) (n5 : strikes.length ≤ 100000)
    (q : ∀ h', Fm [] h h' → Q (p.closed phase strikes bays queues gate struck).d h') : wF F_law_closed [p.d, .int phase, .tup (strikes.map D.int), .loc B, .loc C, .loc S, .bl struck] h Q := by
  unfold F_law_closed
  refine wF_runK ?_
  unfold S_law_closed
  simp
  have f0 : Fm [] h (h ++ [.lst []]) := (Fm.refl _ _).app _
  have L0 := Ls.new h []
  have lt := L0.lt
  generalize ef : h.length = f at *
  generalize h ++ [AO.lst []] = h0 at *
  refine ⟨_, (LB.keep0 f0).i, ?_⟩
  obtain ⟨I, hI⟩ : ∃ I : Nat → Rho → Hs → Prop, ∀ i ρ hx, I i ρ hx ↔ ∃ o8, ρ = [some p.d, some (.int phase), some (.tup (strikes.map D.int)), some (.loc B), some (.loc C), some (.loc S), some (.bl struck), some (.loc f), o8, none, none, none, none, none, none] ∧ Fm [] h hx ∧ Ls hx f ((bays.take i).map fun b => bayD b.older) := ⟨_, fun _ _ _ => Iff.rfl⟩
  refine wFor_inv I ((hI _ _ _).mpr ⟨none, rfl, f0, by simpa using L0⟩) (fun i x ρ hx hi Ii => ?_) (fun ρ hx Ii => ?_)
  · obtain ⟨o8, e, F, L⟩ := (hI _ _ _).mp Ii
    subst e
    rw [List.getElem?_map] at hi
    cases el : bl[i]? with
    | none => rw [el] at hi; cases hi
    | some l =>
    rw [el] at hi
    cases hi
    have hil := (List.getElem?_eq_some_iff.mp el).1
    have eb : bays[i]? = some (bays[i]'(by rw [← PB.len]; exact hil)) := List.getElem?_eq_getElem _
    generalize (bays[i]'(by rw [← PB.len]; exact hil)) = b at *
    have Lb : Ls hx l b.ds := (PB.at_ i l b el eb).keep0 F
    have Li := Lb.i
    have q4 : min i bays.length < 16777216 := by omega
    have et : bays.take (i + 1) = bays.take i ++ [b] := by rw [List.take_add_one, eb]; rfl
    unfold Bay.ds at Li
    have next : ∀ hy, Fm [] hx hy → I (i + 1) [some p.d, some (.int phase), some (.tup (strikes.map D.int)), some (.loc B), some (.loc C), some (.loc S), some (.bl struck), some (.loc f), some (.loc l), none, none, none, none, none, none] (hy.set f (.lst (((bays.take i).map fun b => bayD b.older) ++ [bayD b.older]))) := fun hy fy =>
      (hI _ _ _).mpr ⟨_, rfl, (F.trans fy).set _ (.inr (by omega)), by rw [et]; simpa using (L.keep0 fy).set (((bays.take i).map fun b => bayD b.older) ++ [bayD b.older])⟩
    cases hh : b.hold with
    | none =>
      rw [hh] at Li
      have e : bayD b.older = .tup [.int b.broken, .int b.busy, .int b.used, .str b.kind, .non] := by simp [bayD, Bay.ds, Bay.older, hh]
      simp [LB.i, (LB.keep0 F).i, isLst_of L, Li, L.l, q4]
      rw [← e]
      simpa using next hx (Fm.refl _ _)
    | some xk =>
      obtain ⟨x, k⟩ := xk
      rw [hh] at Li
      have e : bayD b.older = .tup [.int b.broken, .int b.busy, .int b.used, .str b.kind, .tup [x.older.d, .int k]] := by simp [bayD, Bay.ds, Bay.older, hh]
      simp [LB.i, (LB.keep0 F).i, isLst_of L, Li, L.l, q4]
      refine older_ok ?_
      simp [Li, L.l, q4]
      rw [← e]
      simpa using next hx (Fm.refl _ _)
  · obtain ⟨o8, e, F, L⟩ := (hI _ _ _).mp Ii
    subst e
    rw [List.length_map, PB.len, List.take_length] at L
    refine ⟨(LB.keep0 F).i, ?_⟩
    rw [seqK_nx, wS_Seq, wS_Set]
    refine strikes_ok rfl rfl (by simp) n5 fun m h1 f1 hm1 M1 => ?_
    have hal : ((if struck then [1] else []) ++ strikes.map (· + 1)).length ≤ 100001 := by cases struck <;> simp <;> omega
    generalize hago : ((if struck then [1] else []) ++ strikes.map (· + 1)) = ago at M1 hal
    have F1 := F.trans f1
    have C1 := LC.keep0 F1
    have P1 := PC.keep0 F1
    simp [C1.i]
    -- the queues
    obtain ⟨zs, hz1, hz2⟩ : ∃ zs : List (Nat × List Part), zs.map Prod.fst = ql ∧ zs.map Prod.snd = queues := ⟨ql.zip queues, List.map_fst_zip (by rw [PC.len]; exact Nat.le_refl _), List.map_snd_zip (by rw [PC.len]; exact Nat.le_refl _)⟩
    have hzs : ∀ z ∈ zs, Ls h z.1 (z.2.map Part.d) ∧ z.2 ∈ queues := by
      intro z hz
      obtain ⟨i, hi⟩ := List.getElem?_of_mem hz
      have a : ql[i]? = some z.1 := by rw [← hz1, List.getElem?_map, hi]; rfl
      have b : queues[i]? = some z.2 := by rw [← hz2, List.getElem?_map, hi]; rfl
      exact ⟨PC.at_ i _ _ a b, List.mem_of_getElem? b⟩
    rw [show ql.map D.loc = zs.map (fun z => D.loc z.1) by rw [← hz1, List.map_map]; rfl]
    have zl : zs.length ≤ 1000 := by rw [← List.length_map (f := Prod.snd) (as := zs), hz2]; exact n2
    refine wLc_pureM (fun _ => true) (fun z : Nat × List Part => queueD (z.2.map Part.older)) (by simp; omega) (fun h' f' => by
      rw [show zs.map (fun z => D.loc z.1) = ql.map D.loc by rw [← hz1, List.map_map]; rfl]
      exact (C1.keep0 f').i) (fun z h2 hz f2 => ?_) (fun h2 f2 L2 => ?_)
    · have F2 := F1.trans f2
      obtain ⟨c1, c2⟩ := hzs z hz
      simp [(c1.keep0 F2).i]
      refine olders_ok (by have := n3 _ c2; simp; omega) (fun h' f' => ((c1.keep0 F2).keep0 f').i) (by simp) fun h3 f3 L3 => ?_
      simp [L3.i, queueD]
      exact f3
    have L2' : Ls h2 h1.length (queues.map fun q => queueD (q.map Part.older)) := by
      rw [List.filter_eq_self.mpr (by simp)] at L2
      rw [← hz2, List.map_map]
      exact L2
    have M2 := M1.keep0 f2
    simp [L2'.i, M2.i]
    refine wLc_pureM (fun n : Int => decide (n < p.apart)) (fun n => .int n) (by simp; omega) (fun h' f' => (M2.keep0 f').i) (fun n h3 hn f3 => ?_) (fun h3 f3 L3 => ?_)
    · simp
    have F3 := (F1.trans f2).trans f3
    have S3 := LS.keep0 F3
    have pp : 0 < p.period := by have := hp.period; omega
    have T3 := ((L.keep0 f1).keep0 f2).keep0 f3
    simp [L3.i, pp, T3.i, S3.i]
    refine olders_ok (by simp; omega) (fun h' f' => (S3.keep0 f').i) (by simp) fun h4 f4 L4 => ?_
    simp [L4.i]
    have e : D.tup [.int ((phase + 1) % p.period), .tup ((ago.filter fun n => decide (n < p.apart)).map fun n => .int n), .tup (bays.map fun b => bayD b.older), .tup (queues.map fun q => queueD (q.map Part.older)), .tup (gate.map fun x => x.older.d)] = (p.closed phase strikes bays queues gate struck).d := by
      rw [← hago]
      simp [Pl.closed, Sta.d, Function.comp_def]
    rw [e]
    exact q h4 (F3.trans f4)
end
end MP

/-! text SP7 -/
set_option Elab.async false
set_option linter.all false
set_option maxRecDepth 100000
set_option maxHeartbeats 4000000
namespace MP
open PySem PySem.Spec PyProof.Rows
open L2 hiding St
/-! ### a moment of the line, as data -/
structure Mo where
  bays : List Bay
  queues : List (List Part)
  rows : List Row
def Pl.names (p : Pl) : List Str := p.rows.map Stn.name
def Pl.coming (p : Pl) (phase : Int) : List Nat := (List.range p.orders.length).filter fun k => decide (((p.orders[k]?).map Order.phase).getD 0 = phase)
def freshAt (tags : List Int) (i k : Nat) : Part := ⟨k, 0, 0, 0, tags[i]?⟩
def Pl.fresh (p : Pl) (phase : Int) (tags : List Int) : List Part := (p.coming phase).mapIdx (freshAt tags)
def came (x : Part) : Row := ⟨"came", some x, none, x.ord⟩
def Pl.struck (p : Pl) (word : Str) (m : Mo) : Mo :=
  if word ∈ p.names then
    let i := p.names.idxOf word
    { m with bays := m.bays.modify i fun b => { b with broken := (p.row i).repair }, rows := m.rows ++ [⟨"struck", none, some i, (p.row i).repair⟩] }
  else m
def Mo.qlen (m : Mo) (k : Nat) : Nat := ((m.queues[k]?).getD []).length
def Mo.push (m : Mo) (k : Nat) (x : Part) : Mo := { m with queues := m.queues.modify k (· ++ [x]), rows := m.rows ++ [⟨"queued", some x, some k, (m.qlen k + 1 : Nat)⟩] }
def Pl.enter1 (p : Pl) (s : Mo × List Part) (x : Part) : Mo × List Part :=
  if (s.1.qlen (p.goal x) : Int) < (p.row (p.goal x)).room then (s.1.push (p.goal x) x, s.2) else (s.1, s.2 ++ [x])
def Pl.begin1 (p : Pl) (m : Mo) (k : Nat) : Mo := match m.bays[k]?, m.queues[k]? with
  | some b, some (x :: q) => if b.broken = 0 ∧ b.hold = none then { bays := m.bays.set k (p.begin k b x).1, queues := m.queues.set k q, rows := m.rows ++ (p.begin k b x).2 } else m
  | _, _ => m
def Pl.work1 (p : Pl) (word : Str) (m : Mo) (k : Nat) : Mo := match m.bays[k]? with
  | some b => { m with bays := m.bays.set k (p.work k b word).1, rows := m.rows ++ (p.work k b word).2 }
  | none => m
def Mo.free (m : Mo) (k : Nat) : Mo := { m with bays := m.bays.modify k fun b => { b with hold := none } }
def Pl.out1 (p : Pl) (m : Mo) (k : Nat) : Mo := match (m.bays[k]?).bind Bay.hold with
  | some (x, left) => if left = 0 then
      if x.step = (p.way x).length then ({ m with rows := m.rows ++ [⟨"done", some x, some k, x.age + 1⟩] } : Mo).free k
      else if p.goal x = k ∨ (m.qlen (p.goal x) : Int) < (p.row (p.goal x)).room then (m.push (p.goal x) x).free k
      else m
    else m
  | none => m
def Pl.mo0 (p : Pl) (s : Sta) (word : Str) (tags : List Int) : Mo :=
  let m := p.struck word ⟨s.bays, s.queues, []⟩
  { m with rows := m.rows ++ (p.fresh s.phase tags).map came }
def Pl.mo1 (p : Pl) (s : Sta) (word : Str) (tags : List Int) : Mo × List Part := (s.gate ++ p.fresh s.phase tags).foldl p.enter1 (p.mo0 s word tags, [])
def Pl.mo2 (p : Pl) (s : Sta) (word : Str) (tags : List Int) : Mo := (List.range p.rows.length).foldl p.begin1 (p.mo1 s word tags).1
def Pl.mo3 (p : Pl) (s : Sta) (word : Str) (tags : List Int) : Mo := (List.range p.rows.length).foldl (p.work1 word) (p.mo2 s word tags)
def Pl.outs (p : Pl) (i : Nat) (m : Mo) : Mo := (List.range i).foldl (fun m j => p.out1 m (p.rows.length - 1 - j)) m
def Pl.mo4 (p : Pl) (s : Sta) (word : Str) (tags : List Int) : Mo := p.outs p.rows.length (p.mo3 s word tags)
def Pl.next (p : Pl) (s : Sta) (word : Str) (tags : List Int) : Sta :=
  let m := p.mo4 s word tags
  p.closed s.phase s.strikes m.bays m.queues (p.mo1 s word tags).2 (!decide (word = "-"))
def Pl.told (p : Pl) (s : Sta) (word : Str) (tags : List Int) : List Row := (p.mo4 s word tags).rows

/-! ### what stays right -/
structure MoOk (p : Pl) (m : Mo) (qb rb : Nat) : Prop where
  bl : m.bays.length = p.rows.length
  ql : m.queues.length = p.rows.length
  hold : ∀ b ∈ m.bays, HoldOk p b.hold ∧ PyData.strOk b.kind = true
  part : ∀ q ∈ m.queues, (∀ x ∈ q, PartOk p x) ∧ q.length ≤ qb
  rows : m.rows.length ≤ rb
section
variable {p : Pl}
theorem MoOk.mono {m : Mo} {qb rb qb' rb' : Nat} (o : MoOk p m qb rb) (h1 : qb ≤ qb') (h2 : rb ≤ rb') : MoOk p m qb' rb' := ⟨o.bl, o.ql, o.hold, fun q hq => ⟨(o.part q hq).1, Nat.le_trans (o.part q hq).2 h1⟩, Nat.le_trans o.rows h2⟩
theorem mem_modify {α : Type} {xs : List α} {i : Nat} {f : α → α} {y : α} (h : y ∈ xs.modify i f) : y ∈ xs ∨ ∃ x, xs[i]? = some x ∧ y = f x := by
  obtain ⟨j, hj⟩ := List.getElem?_of_mem h
  rw [List.getElem?_modify] at hj
  cases e : xs[j]? with
  | none => rw [e] at hj; cases hj
  | some x =>
    rw [e] at hj
    by_cases hij : i = j
    · subst hij
      simp at hj
      exact .inr ⟨x, e, hj.symm⟩
    · simp [hij] at hj
      subst hj
      exact .inl (List.mem_of_getElem? e)
theorem MoOk.push {m : Mo} {qb rb k : Nat} {x : Part} (o : MoOk p m qb rb) (hx : PartOk p x) : MoOk p (m.push k x) (qb + 1) (rb + 1) where
  bl := o.bl
  ql := by simp [Mo.push, o.ql]
  hold := o.hold
  part := fun q hq => by
    rcases mem_modify hq with hq | ⟨q', hq', rfl⟩
    · exact ⟨(o.part q hq).1, by have := (o.part q hq).2; omega⟩
    · have := o.part q' (List.mem_of_getElem? hq')
      refine ⟨fun y hy => ?_, by simp; omega⟩
      rcases List.mem_append.mp hy with hy | hy
      · exact this.1 y hy
      · rw [List.mem_singleton.mp hy]; exact hx
  rows := by simp [Mo.push]; exact o.rows
theorem MoOk.free {m : Mo} {qb rb k : Nat} (o : MoOk p m qb rb) : MoOk p (m.free k) qb rb where
  bl := by simp [Mo.free, o.bl]
  ql := o.ql
  hold := fun b hb => by
    rcases mem_modify hb with hb | ⟨b', hb', rfl⟩
    · exact o.hold b hb
    · exact ⟨trivial, (o.hold b' (List.mem_of_getElem? hb')).2⟩
  part := o.part
  rows := o.rows
theorem MoOk.enter1 {m : Mo} {st : List Part} {qb rb : Nat} {x : Part} (o : MoOk p m qb rb) (hx : PartOk p x) : MoOk p (p.enter1 (m, st) x).1 (qb + 1) (rb + 1) := by
  unfold Pl.enter1
  split
  · exact o.push hx
  · exact o.mono (by omega) (by omega)
theorem kindOf_ok (hp : PlOk p) {x : Part} (h : x.ord < p.orders.length) : PyData.strOk (p.kindOf x) = true := by
  obtain ⟨y, hy, e⟩ := List.mem_map.mp (Pl.kind_mem hp h)
  rw [← e]; exact (hp.route y hy).nm.ok
theorem begin_hold (hp : PlOk p) {k : Nat} {b : Bay} {x : Part} (hx : PartOk p x) : HoldOk p (p.begin k b x).1.hold ∧ PyData.strOk (p.begin k b x).1.kind = true ∧ (p.begin k b x).2.length ≤ 2 := by
  have w := ((Pl.way_steps hp hx.ord).2.2 _ _ (Pl.way_at hx.step)).work
  have h : HoldOk p (some (x, (p.now x).work)) := ⟨hx.ord, by omega, fun _ => hx.step, Nat.le_of_lt hx.step⟩
  unfold Pl.begin
  dsimp only
  split
  · exact ⟨h, kindOf_ok hp hx.ord, by simp⟩
  · exact ⟨h, kindOf_ok hp hx.ord, by simp⟩
theorem MoOk.begin1 (hp : PlOk p) {m : Mo} {qb rb k : Nat} (o : MoOk p m qb rb) : MoOk p (p.begin1 m k) qb (rb + 2) := by
  unfold Pl.begin1
  split
  · rename_i b x q hb hq
    split
    · have hx := o.part _ (List.mem_of_getElem? hq)
      have hb' := begin_hold hp (k := k) (b := b) (hx.1 x List.mem_cons_self)
      exact {
        bl := by simp [o.bl]
        ql := by simp [o.ql]
        hold := fun b' hb'' => by
          rcases List.mem_or_eq_of_mem_set hb'' with h | h
          · exact o.hold b' h
          · rw [h]; exact ⟨hb'.1, hb'.2.1⟩
        part := fun q' hq' => by
          rcases List.mem_or_eq_of_mem_set hq' with h | h
          · exact o.part q' h
          · rw [h]; exact ⟨fun y hy => hx.1 y (List.mem_cons_of_mem _ hy), by have := hx.2; simp at this; omega⟩
        rows := by have := o.rows; have := hb'.2.2; simp; omega }
    · exact o.mono (by omega) (by omega)
  · exact o.mono (by omega) (by omega)
theorem work_hold (hp : PlOk p) {k : Nat} {b : Bay} {word : Str} (hb : HoldOk p b.hold) (hk : PyData.strOk b.kind = true) : HoldOk p (p.work k b word).1.hold ∧ PyData.strOk (p.work k b word).1.kind = true ∧ (p.work k b word).2.length ≤ 1 := by
  unfold Pl.work
  split
  · exact ⟨hb, hk, by simp⟩
  split
  · exact ⟨hb, hk, by simp⟩
  split
  · rename_i e; exact ⟨by rw [e]; trivial, hk, by simp⟩
  · rename_i x left e
    rw [e] at hb
    obtain ⟨h1, h2, h3, h4⟩ := hb
    split
    · rename_i hl
      have h3 := h3 hl
      dsimp only
      split
      · split
        · refine ⟨⟨h1, by omega, fun z => absurd z (by omega), ?_⟩, hk, by simp⟩
          have w := ((Pl.way_steps hp h1).2.2 _ _ (Pl.way_at h3)).back
          show (p.now x).back.getD 0 ≤ (p.way x).length
          cases z : (p.now x).back with
          | none => simp
          | some b' => have := w b' z; simp; omega
        · exact ⟨⟨h1, by omega, fun z => absurd z (by omega), by show x.step + 1 ≤ (p.way x).length; omega⟩, hk, by simp⟩
      · exact ⟨⟨h1, by omega, fun _ => h3, h4⟩, hk, by simp⟩
    · exact ⟨by show HoldOk p b.hold; rw [e]; exact ⟨h1, h2, h3, h4⟩, hk, by simp⟩
theorem MoOk.work1 (hp : PlOk p) {m : Mo} {word : Str} {qb rb k : Nat} (o : MoOk p m qb rb) : MoOk p (p.work1 word m k) qb (rb + 1) := by
  unfold Pl.work1
  split
  · rename_i b hb
    have hb' := o.hold b (List.mem_of_getElem? hb)
    have w := work_hold hp (k := k) (word := word) hb'.1 hb'.2
    exact {
      bl := by simp [o.bl]
      ql := o.ql
      hold := fun b' hb'' => by
        rcases List.mem_or_eq_of_mem_set hb'' with h | h
        · exact o.hold b' h
        · rw [h]; exact ⟨w.1, w.2.1⟩
      part := o.part
      rows := by have := o.rows; have := w.2.2; simp; omega }
  · exact o.mono (by omega) (by omega)
theorem MoOk.out1 {m : Mo} {qb rb k : Nat} (o : MoOk p m qb rb) : MoOk p (p.out1 m k) (qb + 1) (rb + 1) := by
  unfold Pl.out1
  split
  · rename_i x left e
    split
    · rename_i hl
      cases eb : m.bays[k]? with
      | none => rw [eb] at e; cases e
      | some b =>
      rw [eb] at e
      have hb := (o.hold b (List.mem_of_getElem? eb)).1
      have e : b.hold = some (x, left) := e
      rw [e] at hb
      split
      · exact MoOk.free (m := { m with rows := _ }) ⟨o.bl, o.ql, o.hold, fun q hq => ⟨(o.part q hq).1, by have := (o.part q hq).2; omega⟩, by have := o.rows; simp; omega⟩
      · rename_i hs
        split
        · exact (o.push ⟨hb.1, by have := hb.2.2.2; omega⟩).free
        · exact o.mono (by omega) (by omega)
    · exact o.mono (by omega) (by omega)
  · exact o.mono (by omega) (by omega)
/-- the line's state -/
structure StaOk (p : Pl) (s : Sta) (gb qb : Nat) : Prop where
  bl : s.bays.length = p.rows.length
  ql : s.queues.length = p.rows.length
  hold : ∀ b ∈ s.bays, HoldOk p b.hold ∧ PyData.strOk b.kind = true
  part : ∀ q ∈ s.queues, (∀ x ∈ q, PartOk p x) ∧ q.length ≤ qb
  gate : ∀ x ∈ s.gate, PartOk p x
  glen : s.gate.length ≤ gb
  slen : s.strikes.length ≤ gb
end
end MP

/-! text SP8 -/
set_option Elab.async false
set_option linter.all false
set_option maxRecDepth 100000
set_option maxHeartbeats 4000000
namespace MP
open PySem PySem.Spec PyProof.Rows
open L2 hiding St
/-! ### a moment's places -/
structure Lay (B C R : Nat) (bl ql : List Nat) : Prop where
  bnd : bl.Nodup
  qnd : ql.Nodup
  dis : ∀ l ∈ bl, l ∉ ql
  br : R ∉ bl
  qr : R ∉ ql
  Bb : B ∉ bl
  Bq : B ∉ ql
  BR : B ≠ R
  Cb : C ∉ bl
  Cq : C ∉ ql
  CR : C ≠ R
structure MoH (h : Hs) (B C R : Nat) (bl ql : List Nat) (m : Mo) : Prop where
  lb : Ls h B (bl.map D.loc)
  lc : Ls h C (ql.map D.loc)
  pb : Pts Bay.ds h bl m.bays
  pc : Pts (fun q : List Part => q.map Part.d) h ql m.queues
  lr : Ls h R (m.rows.map Row.d)
section
variable {h h' : Hs} {B C R : Nat} {bl ql : List Nat} {m : Mo}
theorem nodup_ne {α : Type} {xs : List α} {i j : Nat} {x y : α} (nd : xs.Nodup) (hi : xs[i]? = some x) (hj : xs[j]? = some y) (hn : i ≠ j) : x ≠ y := by
  intro e
  subst e
  obtain ⟨a, a'⟩ := List.getElem?_eq_some_iff.mp hi
  obtain ⟨b, b'⟩ := List.getElem?_eq_some_iff.mp hj
  exact hn ((List.getElem_inj nd).mp (a'.trans b'.symm))
theorem MoH.keep0 (a : MoH h B C R bl ql m) (f : Fm [] h h') : MoH h' B C R bl ql m := ⟨a.lb.keep0 f, a.lc.keep0 f, a.pb.keep0 f, a.pc.keep0 f, a.lr.keep0 f⟩
theorem Pts.keep {α : Type} {enc : α → List D} {ls : List Nat} {xs : List α} {ms : List Nat} (a : Pts enc h ls xs) (f : Fm ms h h') (n : ∀ l ∈ ls, l ∉ ms) : Pts enc h' ls xs := ⟨a.len, fun i l x e e' => (a.at_ i l x e e').keep f (n l (List.mem_of_getElem? e))⟩
theorem Pts.set {α : Type} {enc : α → List D} {ls : List Nat} {xs : List α} {ms : List Nat} {k l : Nat} {x' : α} (a : Pts enc h ls xs) (f : Fm ms h h') (nd : ls.Nodup) (hk : ls[k]? = some l) (n : ∀ y ∈ ls, y ≠ l → y ∉ ms) (L : Ls h' l (enc x')) : Pts enc h' ls (xs.set k x') :=
  ⟨by rw [List.length_set]; exact a.len, fun i l2 x e e' => by
    by_cases hi : i = k
    · subst hi
      rw [hk] at e
      cases e
      have hl : i < xs.length := by rw [← a.len]; exact (List.getElem?_eq_some_iff.mp hk).1
      rw [List.getElem?_set_self hl] at e'
      cases e'
      exact L
    · rw [List.getElem?_set_ne (by omega)] at e'
      exact (a.at_ i l2 x e e').keep f (n l2 (List.mem_of_getElem? e) (nodup_ne nd e hk hi))⟩
theorem MoH.rowsL (Y : Lay B C R bl ql) (a : MoH h B C R bl ql m) (f : Fm [R] h h') {rows : List Row} (L : Ls h' R (rows.map Row.d)) : MoH h' B C R bl ql { m with rows := rows } :=
  ⟨a.lb.keep f (by simpa using Y.BR), a.lc.keep f (by simpa using Y.CR), a.pb.keep f fun l hl => by simp; rintro rfl; exact Y.br hl, a.pc.keep f fun l hl => by simp; rintro rfl; exact Y.qr hl, L⟩
theorem MoH.bayR (Y : Lay B C R bl ql) (a : MoH h B C R bl ql m) {k l : Nat} (hk : bl[k]? = some l) (f : Fm [l, R] h h') {b : Bay} {rows : List Row} (Lb : Ls h' l b.ds) (L : Ls h' R (rows.map Row.d)) : MoH h' B C R bl ql { m with bays := m.bays.set k b, rows := rows } :=
  have hl := List.mem_of_getElem? hk
  ⟨a.lb.keep f (by simp; exact ⟨fun e => Y.Bb (e ▸ hl), Y.BR⟩), a.lc.keep f (by simp; exact ⟨fun e => Y.Cb (e ▸ hl), Y.CR⟩),
    a.pb.set f Y.bnd hk (fun y hy n => by simp; exact ⟨n, fun e => Y.br (e ▸ hy)⟩) Lb, a.pc.keep f fun y hy => by simp; exact ⟨fun e => Y.dis l hl (e ▸ hy), fun e => Y.qr (e ▸ hy)⟩, L⟩
theorem MoH.bay (Y : Lay B C R bl ql) (a : MoH h B C R bl ql m) {k l : Nat} (hk : bl[k]? = some l) (f : Fm [l] h h') {b : Bay} (Lb : Ls h' l b.ds) : MoH h' B C R bl ql { m with bays := m.bays.set k b } :=
  have hl := List.mem_of_getElem? hk
  ⟨a.lb.keep f (by simp; exact fun e => Y.Bb (e ▸ hl)), a.lc.keep f (by simp; exact fun e => Y.Cb (e ▸ hl)),
    a.pb.set f Y.bnd hk (fun y hy n => by simpa using n) Lb, a.pc.keep f fun y hy => by simp; exact fun e => Y.dis l hl (e ▸ hy), a.lr.keep f (by simp; exact fun e => Y.br (e ▸ hl))⟩
theorem MoH.que (Y : Lay B C R bl ql) (a : MoH h B C R bl ql m) {k l : Nat} (hk : ql[k]? = some l) (f : Fm [l] h h') {q : List Part} (Lq : Ls h' l (q.map Part.d)) : MoH h' B C R bl ql { m with queues := m.queues.set k q } :=
  have hl := List.mem_of_getElem? hk
  ⟨a.lb.keep f (by simp; exact fun e => Y.Bq (e ▸ hl)), a.lc.keep f (by simp; exact fun e => Y.Cq (e ▸ hl)),
    a.pb.keep f fun y hy => by simp; exact fun e => Y.dis y hy (e ▸ hl), a.pc.set f Y.qnd hk (fun y hy n => by simpa using n) Lq, a.lr.keep f (by simp; exact fun e => Y.qr (e ▸ hl))⟩
/-- all the moment's places -/
abbrev allP (B C R : Nat) (bl ql : List Nat) : List Nat := B :: C :: R :: (bl ++ ql)
theorem MoH.out {ms : List Nat} (a : MoH h B C R bl ql m) (f : Fm ms h h') (n : ∀ l ∈ ms, l ∉ allP B C R bl ql) : MoH h' B C R bl ql m :=
  ⟨a.lb.keep f fun z => n _ z (by simp), a.lc.keep f fun z => n _ z (by simp), a.pb.keep f fun l hl z => n _ z (by simp [hl]), a.pc.keep f fun l hl z => n _ z (by simp [hl]), a.lr.keep f fun z => n _ z (by simp)⟩
theorem modify_at {α : Type} {xs : List α} {k : Nat} {x : α} {f : α → α} (e : xs[k]? = some x) : xs.modify k f = xs.set k (f x) := by
  refine List.ext_getElem? fun i => ?_
  rw [List.getElem?_modify, List.getElem?_set]
  by_cases hi : k = i
  · subst hi
    have := (List.getElem?_eq_some_iff.mp e).1
    have e' := (List.getElem?_eq_some_iff.mp e).2
    simp [this, e']
  · simp [hi]
end
/-- the names' slots in the moment's body -/
@[reducible] def mR (pd sd wd td : D) (B C K : Nat) (o7 : Option D) (Y : Option D) (o9 o10 : Option D) (ph sk gt : D) (R N I : Nat) : Rho :=
  [some pd, some sd, some wd, some td, some (.loc B), some (.loc C), some (.loc K), o7, Y, o9, o10, some ph, some sk, some gt, some (.loc R), some (.loc N), some (.loc I), none, none, none]
section
variable {p : Pl} {h : Hs} {B C R K Y N I : Nat} {bl ql : List Nat} {m : Mo} {sd wd td ph sk gt : D} {o7 o9 o10 : Option D} {Q : QS}
theorem MoH.push {h h' : Hs} (Z : Lay B C R bl ql) (a : MoH h B C R bl ql m) {k : Nat} {x : Part} {q : List Part} {l : Nat} (hq : m.queues[k]? = some q) (hl : ql[k]? = some l) (f : Fm [l, R] h h') (Lq : Ls h' l ((q ++ [x]).map Part.d)) (Lr : Ls h' R ((m.rows ++ [Row.mk "queued" (some x) (some k) ((q.length + 1 : Nat) : Int)]).map Row.d)) : MoH h' B C R bl ql (m.push k x) := by
  have hm := List.mem_of_getElem? hl
  have e : m.push k x = { m with queues := m.queues.set k (q ++ [x]), rows := m.rows ++ [Row.mk "queued" (some x) (some k) ((q.length + 1 : Nat) : Int)] } := by
    unfold Mo.push Mo.qlen
    rw [modify_at hq, hq]
    rfl
  rw [e]
  exact ⟨a.lb.keep f (by simp; exact ⟨fun e => Z.Bq (e ▸ hm), Z.BR⟩), a.lc.keep f (by simp; exact ⟨fun e => Z.Cq (e ▸ hm), Z.CR⟩),
    a.pb.keep f (fun y hy => by simp; exact ⟨fun e => Z.dis y hy (e ▸ hm), fun e => Z.br (e ▸ hy)⟩), a.pc.set f Z.qnd hl (fun y hy n => by simp; exact ⟨n, fun e => Z.qr (e ▸ hy)⟩) Lq, Lr⟩
theorem enter_step {x : Part} {st : List Part} {qb rb : Nat} (hp : PlOk p) (hx : PartOk p x) (Z : Lay B C R bl ql) (o : MoOk p m qb rb) (H : MoH h B C R bl ql m) (LY : Ls h Y (st.map Part.d)) (yn : Y ∉ allP B C R bl ql) (q1 : qb ≤ 10000000) (q2 : rb ≤ 10000000) (q3 : st.length ≤ 10000000)
    (q : ∀ h', Fm (Y :: R :: (bl ++ ql)) h h' → MoH h' B C R bl ql (p.enter1 (m, st) x).1 → Ls h' Y ((p.enter1 (m, st) x).2.map Part.d) → Q .nx (mR p.d sd wd td B C K o7 (some (.loc Y)) (some x.d) (some (.int (p.goal x))) ph sk gt R N I) h') :
    wS (sSeq (sSet (mCallF 2 F_law_goal (aCons (mVar 0) (aCons (mVar 9) aNil))) (gVar 10)) (sSeq (sIf (bBool (mOp2 ltO (mCallN lenN (aCons (mOp2 ixO (mVar 5) (mVar 10)) aNil)) (mOp2 ixO (mOp2 ixO (mOp2 ixO (mVar 0) (mC (.int 0))) (mVar 10)) (mC (.int 1))))) (sSeq (sExpr (mMeth isLst appendM (mOp2 ixO (mVar 5) (mVar 10)) (aCons (mVar 9) aNil))) (sSeq (sExpr (mMeth isLst appendM (mVar 14) (aCons (mTup (aCons (mC (.str "queued")) (aCons (mVar 9) (aCons (mVar 10) (aCons (mCallN lenN (aCons (mOp2 ixO (mVar 5) (mVar 10)) aNil)) aNil))))) aNil))) sNext)) (sSeq (sExpr (mMeth isLst appendM (mVar 8) (aCons (mVar 9) aNil))) sNext)) sNext)) (mR p.d sd wd td B C K o7 (some (.loc Y)) (some x.d) o10 ph sk gt R N I) h Q := by
  have yR : Y ≠ R := fun e => yn (by simp [e])
  have yq : Y ∉ ql := fun e => yn (by simp [e])
  simp
  refine goal_ok hp hx fun h1 f1 => ?_
  have H1 := H.keep0 f1
  have Y1 := LY.keep0 f1
  have hg := goal_lt hp hx
  have hrow := Pl.row_at hg
  obtain ⟨qu, hq⟩ : ∃ qu, m.queues[p.goal x]? = some qu := ⟨_, List.getElem?_eq_getElem (by rw [o.ql]; exact hg)⟩
  obtain ⟨l, hl, Lq⟩ := H1.pc.get hq
  have hlm := List.mem_of_getElem? hl
  have ql1 : qu.length ≤ qb := (o.part qu (List.mem_of_getElem? hq)).2
  have lR : l ≠ R := fun e => Z.qr (e ▸ hlm)
  have lC : l ≠ C := fun e => Z.Cq (e ▸ hlm)
  have z1 := Lq.l; have z1l := isLst_of Lq; have z2 := Lq.lt; have z3 := H1.lr.l; have z3l := isLst_of H1.lr; have z4 := H1.lr.lt; have z5 := Y1.l; have z5l := isLst_of Y1; have z6 := Y1.lt
  have r1 := o.rows
  have w1 : qu.length < 16777216 := by omega
  have w2 : m.rows.length < 16777216 := by omega
  have w3 : st.length < 16777216 := by omega
  have eql : m.qlen (p.goal x) = qu.length := by unfold Mo.qlen; rw [hq]; rfl
  simp [H1.lc.i, hl, Lq.i, hrow]
  by_cases c : (qu.length : Int) < (p.row (p.goal x)).room
  · simp [c, z1, z1l, z2, z3, z3l, z4, w1, w2, H1.lc.i, hl, lR, lC, Ne.symm lR]
    have e1 : (p.enter1 (m, st) x).1 = m.push (p.goal x) x := by unfold Pl.enter1; simp only [eql]; rw [if_pos c]
    have e2 : (p.enter1 (m, st) x).2 = st := by unfold Pl.enter1; simp only [eql]; rw [if_pos c]
    rw [e1, e2] at q
    have F : ∀ a b, Fm [l, R] h ((h1.set l a).set R b) := fun a b => (f1.of0.set _ (.inl (by simp))).set _ (.inl (by simp))
    have F1 : ∀ a b, Fm [l, R] h1 ((h1.set l a).set R b) := fun a b => ((Fm.refl _ _).set _ (.inl (by simp))).set _ (.inl (by simp))
    refine q _ ((F _ _).mono (by simp; exact .inr (.inr (.inr hlm)))) ?_ ?_
    · refine H1.push Z hq hl (F1 _ _) ?_ ?_
      · unfold Ls; simp [List.getElem?_set, Ne.symm lR, z2, z4]
      · unfold Ls; simp [List.getElem?_set, z4, Row.d]
    · exact Y1.keep (F1 _ _) (by simp; exact ⟨fun e => yq (e ▸ hlm), yR⟩)
  · simp [c, z5, z5l, z6, w3]
    have e1 : (p.enter1 (m, st) x).1 = m := by unfold Pl.enter1; simp only [eql]; rw [if_neg c]
    have e2 : (p.enter1 (m, st) x).2 = st ++ [x] := by unfold Pl.enter1; simp only [eql]; rw [if_neg c]
    rw [e1, e2] at q
    refine q _ (Fm.set f1.of0 _ (.inl (by simp))) ?_ (by simpa using Y1.set (st.map Part.d ++ [x.d]))
    exact H1.out (ms := [Y]) (Fm.set (Fm.refl _ _) _ (.inl (by simp))) (by simpa using yn)
/-- a bay begins -/
theorem begin_step {k : Nat} {o8 : Option D} {qb rb : Nat} (hp : PlOk p) (hk : k < p.rows.length) (Z : Lay B C R bl ql) (o : MoOk p m qb rb) (H : MoH h B C R bl ql m) (q1 : qb ≤ 10000000) (q2 : rb ≤ 100000)
    (q : ∀ h', Fm (R :: (bl ++ ql)) h h' → MoH h' B C R bl ql (p.begin1 m k) → Q .nx (mR p.d sd wd td B C K o7 o8 o9 (some (.int k)) ph sk gt R N I) h') :
    wS (sSeq (sIf (bAnd (bBool (mOp2 eqO (mOp2 ixO (mOp2 ixO (mVar 4) (mVar 10)) (mC (.int 0))) (mC (.int 0)))) (bAnd (bBool (mOp2 isO (mOp2 ixO (mOp2 ixO (mVar 4) (mVar 10)) (mC (.int 4))) (mC .non))) (bBool (mOp2 neO (mOp2 ixO (mVar 5) (mVar 10)) (mLst aNil))))) (sSeq (sExpr (mCallF 5 F_law_begin (aCons (mVar 0) (aCons (mVar 10) (aCons (mOp2 ixO (mVar 4) (mVar 10)) (aCons (mMeth isLst popM (mOp2 ixO (mVar 5) (mVar 10)) (aCons (mC (.int 0)) aNil)) (aCons (mVar 14) aNil))))))) sNext) sNext) sNext) (mR p.d sd wd td B C K o7 o8 o9 (some (.int k)) ph sk gt R N I) h Q := by
  obtain ⟨b, hb⟩ : ∃ b, m.bays[k]? = some b := ⟨_, List.getElem?_eq_getElem (by rw [o.bl]; exact hk)⟩
  obtain ⟨qu, hq⟩ : ∃ qu, m.queues[k]? = some qu := ⟨_, List.getElem?_eq_getElem (by rw [o.ql]; exact hk)⟩
  obtain ⟨l, hl, Lb⟩ := H.pb.get hb
  obtain ⟨l2, hl2, Lq⟩ := H.pc.get hq
  have hlm := List.mem_of_getElem? hl
  have hlm2 := List.mem_of_getElem? hl2
  have lR : l ≠ R := fun e => Z.br (e ▸ hlm)
  have l2R : l2 ≠ R := fun e => Z.qr (e ▸ hlm2)
  have l2l : l2 ≠ l := fun e => Z.dis l hlm (e ▸ hlm2)
  have bo := o.hold b (List.mem_of_getElem? hb)
  have qo := o.part qu (List.mem_of_getElem? hq)
  have Lb' : Ls h l [.int b.broken, .int b.busy, .int b.used, .str b.kind, holdD b.hold] := Lb
  have same : ¬ (b.broken = 0 ∧ b.hold = none) → p.begin1 m k = m := fun c => by
    unfold Pl.begin1
    rw [hb, hq]
    cases qu with
    | nil => rfl
    | cons x xs => simp only [if_neg c]
  simp [H.lb.i, hl, Lb'.i]
  by_cases c1 : b.broken = 0
  · by_cases c2 : b.hold = none
    · simp [c1, c2, H.lc.i, hl2]
      have F0 : Fm [] h (h ++ [.lst []]) := (Fm.refl _ _).app _
      have hpl : (qu.map Part.d).all (plain 3) = true := by
        rw [List.all_map, List.all_eq_true]
        intro x hx
        show ((.int x.ord :: .int x.step :: .int x.age :: .int x.again :: x.tag.toList.map D.int : List D)).all (plain 2) = true
        cases x.tag <;> rfl
      have e := ne_nilL (h := h ++ [.lst []]) (Lq.keep0 F0).i (Ls.new h []).i (by omega) hpl
      have H0 := H.keep0 F0
      have Lq0 := Lq.keep0 F0
      have Lb0 := Lb.keep0 F0
      generalize h ++ [AO.lst []] = h0 at *
      rw [show h.length = h.length from rfl] at e
      simp [e]
      cases qu with
      | nil =>
        simp
        have e1 : p.begin1 m k = m := by unfold Pl.begin1; rw [hb, hq]
        rw [e1] at q
        exact q h0 F0.of0 H0
      | cons x xs =>
        have hx := qo.1 x List.mem_cons_self
        have e1 : p.begin1 m k = { bays := m.bays.set k (p.begin k b x).1, queues := m.queues.set k xs, rows := m.rows ++ (p.begin k b x).2 } := by unfold Pl.begin1; rw [hb, hq]; simp only [if_pos (And.intro c1 c2)]
        rw [e1] at q
        simp [H0.lb.i, hl, H0.lc.i, hl2, isLst_of Lq0]
        have z1 : h0[l2]? = some (.lst ((x :: xs).map Part.d)) := Lq0
        unfold popM
        simp [z1, seqIndex?]
        have F1 : Fm [l2] h0 (h0.set l2 (.lst (xs.map Part.d))) := (Fm.refl _ _).set _ (.inl (by simp))
        have H1 := H0.que Z hl2 F1 (Lq0.set (xs.map Part.d))
        have Lb1 := Lb0.oth (m := l2) (o := .lst (xs.map Part.d)) l2l
        have Lr1 := H1.lr
        have r1 := o.rows
        generalize h0.set l2 (.lst (xs.map Part.d)) = h1 at *
        refine begin_ok hp hk hx bo.2 Lb1 Lr1 lR (by show m.rows.length ≤ 100000; omega) fun h2 f2 L2 M2 => ?_
        refine q h2 ?_ ?_
        · refine ((F0.of0.then1 F1 (.inl ?_)).then f2 ?_)
          · simp; exact .inr (.inr hlm2)
          · intro y hy
            left
            simp at hy ⊢
            rcases hy with rfl | rfl
            · exact .inr (.inl hlm)
            · exact .inl rfl
        · exact H1.bayR Z hl f2 L2 M2
    · simp [c1, c2]
      rw [same (by simp [c2])] at q
      exact q h (Fm.refl _ _) H
  · simp [c1]
    rw [same (by simp [c1])] at q
    exact q h (Fm.refl _ _) H
/-- a bay's work -/
theorem work_step {k : Nat} {word : Str} {o8 : Option D} {qb rb : Nat} (hp : PlOk p) (hk : k < p.rows.length) (hbk : ∀ b, m.bays[k]? = some b → BackOk p k b word) (Z : Lay B C R bl ql) (o : MoOk p m qb rb) (H : MoH h B C R bl ql m) (q2 : rb ≤ 100000)
    (q : ∀ h', Fm (R :: (bl ++ ql)) h h' → MoH h' B C R bl ql (p.work1 word m k) → Q .nx (mR p.d sd (.str word) td B C K o7 o8 o9 (some (.int k)) ph sk gt R N I) h') :
    wS (sSeq (sExpr (mCallF 5 F_law_work (aCons (mVar 0) (aCons (mVar 10) (aCons (mOp2 ixO (mVar 4) (mVar 10)) (aCons (mVar 2) (aCons (mVar 14) aNil))))))) sNext) (mR p.d sd (.str word) td B C K o7 o8 o9 (some (.int k)) ph sk gt R N I) h Q := by
  obtain ⟨b, hb⟩ : ∃ b, m.bays[k]? = some b := ⟨_, List.getElem?_eq_getElem (by rw [o.bl]; exact hk)⟩
  obtain ⟨l, hl, Lb⟩ := H.pb.get hb
  have hlm := List.mem_of_getElem? hl
  have lR : l ≠ R := fun e => Z.br (e ▸ hlm)
  have bo := o.hold b (List.mem_of_getElem? hb)
  have r1 := o.rows
  have e1 : p.work1 word m k = { m with bays := m.bays.set k (p.work k b word).1, rows := m.rows ++ (p.work k b word).2 } := by unfold Pl.work1; rw [hb]
  rw [e1] at q
  simp [H.lb.i, hl]
  refine work_ok hp hk bo.1 (hbk b hb) Lb H.lr lR (by omega) fun h2 f2 L2 M2 => ?_
  refine q h2 (f2.mono ?_) (H.bayR Z hl f2 L2 M2)
  intro y hy
  simp at hy ⊢
  rcases hy with rfl | rfl
  · exact .inr (.inl hlm)
  · exact .inl rfl
theorem MoH.free {h h' : Hs} (Z : Lay B C R bl ql) (a : MoH h B C R bl ql m) {k l : Nat} {b : Bay} (hb : m.bays[k]? = some b) (hl : bl[k]? = some l) (f : Fm [l] h h') (L : Ls h' l ({ b with hold := none } : Bay).ds) : MoH h' B C R bl ql (m.free k) := by
  have e : m.free k = { m with bays := m.bays.set k { b with hold := none } } := by unfold Mo.free; rw [modify_at hb]
  rw [e]
  exact a.bay Z hl f L
theorem outpush_step {k : Nat} {x : Part} {b : Bay} {o8 : Option D} {qb rb : Nat} (hp : PlOk p) (hk : k < p.rows.length) (hx : PartOk p x) (hb : m.bays[k]? = some b) (Z : Lay B C R bl ql) (o : MoOk p m qb rb) (H : MoH h B C R bl ql m) (q1 : qb ≤ 10000000) (q2 : rb ≤ 10000000)
    (q : ∀ h', Fm (R :: (bl ++ ql)) h h' → MoH h' B C R bl ql ((m.push (p.goal x) x).free k) → Q .nx (mR p.d sd wd td B C K o7 o8 (some x.d) (some (.int k)) ph sk gt R N I) h') :
    wS (sSeq (sExpr (mMeth isLst appendM (mOp2 ixO (mVar 5) (mCallF 2 F_law_goal (aCons (mVar 0) (aCons (mVar 9) aNil)))) (aCons (mVar 9) aNil))) (sSeq (sExpr (mMeth isLst appendM (mVar 14) (aCons (mTup (aCons (mC (.str "queued")) (aCons (mVar 9) (aCons (mCallF 2 F_law_goal (aCons (mVar 0) (aCons (mVar 9) aNil))) (aCons (mCallN lenN (aCons (mOp2 ixO (mVar 5) (mCallF 2 F_law_goal (aCons (mVar 0) (aCons (mVar 9) aNil)))) aNil)) aNil))))) aNil))) (sSeq (sSet (mC .non) (gSubM (mOp2 ixO (mVar 4) (mVar 10)) (mC (.int 4)))) sNext))) (mR p.d sd wd td B C K o7 o8 (some x.d) (some (.int k)) ph sk gt R N I) h Q := by
  obtain ⟨l, hl, Lb⟩ := H.pb.get hb
  have hlm := List.mem_of_getElem? hl
  have lR : l ≠ R := fun e => Z.br (e ▸ hlm)
  have r1 := o.rows
  have RW : R ∈ R :: (bl ++ ql) := by simp
  have w2 : m.rows.length < 16777216 := by omega
  have hg := goal_lt hp hx
  obtain ⟨qu, hq⟩ : ∃ qu, m.queues[p.goal x]? = some qu := ⟨_, List.getElem?_eq_getElem (by rw [o.ql]; exact hg)⟩
  obtain ⟨l2, hl2, Lq⟩ := H.pc.get hq
  have hlm2 := List.mem_of_getElem? hl2
  have l2R : l2 ≠ R := fun e => Z.qr (e ▸ hlm2)
  have l2l : l2 ≠ l := fun e => Z.dis l hlm (e ▸ hlm2)
  have ql1 : qu.length ≤ qb := (o.part qu (List.mem_of_getElem? hq)).2
  have w1 : qu.length < 16777216 := by omega
  simp
  refine goal_ok hp hx fun h1 f1 => ?_
  have H1 := H.keep0 f1
  have Lq1 := Lq.keep0 f1
  have z1 := Lq1.l; have z1l := isLst_of Lq1; have z2 := Lq1.lt
  simp [H1.lc.i, hl2, z1, z1l, z2, w1]
  have F1 : Fm [l2] h1 (h1.set l2 (.lst (qu.map Part.d ++ [x.d]))) := (Fm.refl _ _).set _ (.inl (by simp))
  have Lq2 := Lq1.set (qu.map Part.d ++ [x.d])
  have H2 := H1.que Z hl2 F1 (q := qu ++ [x]) (by simpa using Lq2)
  have F2 := f1.of0.then1 (ms := R :: (bl ++ ql)) F1 (.inl (by simp; exact .inr (.inr hlm2)))
  generalize h1.set l2 (.lst (qu.map Part.d ++ [x.d])) = h2 at *
  refine ⟨isLst_of H2.lr, ?_⟩
  refine goal_ok hp hx fun h3 f3 => ?_
  refine goal_ok hp hx fun h4 f4 => ?_
  have f34 := f3.trans f4
  have H4 := H2.keep0 f34
  have Lq4 := Lq2.keep0 f34
  have z3 : lstAt h4 R = some (m.rows.map Row.d) := H4.lr.l; have z3l := isLst_of H4.lr
  have z4 := H4.lr.lt
  have H4lb : itemsAt h4 B = some (bl.map D.loc) := H4.lb.i
  have H4lc : itemsAt h4 C = some (ql.map D.loc) := H4.lc.i
  have BR' : B ≠ R := Z.BR
  have Lb4 : Ls h4 l [.int b.broken, .int b.busy, .int b.used, .str b.kind, holdD b.hold] := by
    obtain ⟨l', hl', L'⟩ := H4.pb.get hb
    rw [hl] at hl'
    cases hl'
    exact L'
  have z5 := Lb4.l; have z5l := isLst_of Lb4; have z6 := Lb4.lt
  simp [H4lc, hl2, Lq4.i, z3, z3l, z4, w2, Ne.symm BR', H4lb, hl, z5, z5l, z6, ixN, Ne.symm lR, lR]
  have F4 : ∀ a, Fm [R] h4 (h4.set R a) := fun a => (Fm.refl _ _).set _ (.inl (by simp))
  have H5 := H4.rowsL Z (F4 _) (rows := m.rows ++ [Row.mk "queued" (some x) (some (p.goal x)) ((qu.length + 1 : Nat) : Int)]) (H4.lr.set _)
  have eP : m.push (p.goal x) x = { m with queues := m.queues.set (p.goal x) (qu ++ [x]), rows := m.rows ++ [Row.mk "queued" (some x) (some (p.goal x)) ((qu.length + 1 : Nat) : Int)] } := by
    unfold Mo.push Mo.qlen
    rw [modify_at hq, hq]
    rfl
  rw [eP] at q
  refine q _ (Fm.set (Fm.set (F2.then0 f34) _ (.inl RW)) _ (.inl (by simp [hlm]))) ?_
  refine MoH.free (b := b) Z (h := h4.set R _) (by simpa [Row.d] using H5) hb hl ((Fm.refl _ _).set _ (.inl (by simp))) ?_
  simpa [Bay.ds] using (Lb4.oth (m := R) (Ne.symm lR)).set (Bay.ds { b with hold := none })
/-- a bay lets its part go -/
theorem out_step {k : Nat} {o8 : Option D} {qb rb : Nat} (hp : PlOk p) (hk : k < p.rows.length) (Z : Lay B C R bl ql) (o : MoOk p m qb rb) (H : MoH h B C R bl ql m) (q1 : qb ≤ 10000000) (q2 : rb ≤ 10000000)
    (q : ∀ h' o9', Fm (R :: (bl ++ ql)) h h' → MoH h' B C R bl ql (p.out1 m k) → Q .nx (mR p.d sd wd td B C K o7 o8 o9' (some (.int k)) ph sk gt R N I) h') :
    wS (sSeq (sIf (bAnd (bBool (mOp2 isNotO (mOp2 ixO (mOp2 ixO (mVar 4) (mVar 10)) (mC (.int 4))) (mC .non))) (bBool (mOp2 eqO (mOp2 ixO (mOp2 ixO (mOp2 ixO (mVar 4) (mVar 10)) (mC (.int 4))) (mC (.int 1))) (mC (.int 0))))) (sSeq (sSet (mOp2 ixO (mOp2 ixO (mOp2 ixO (mVar 4) (mVar 10)) (mC (.int 4))) (mC (.int 0))) (gVar 9)) (sSeq (sIf (bBool (mOp2 eqO (mOp2 ixO (mVar 9) (mC (.int 1))) (mCallN lenN (aCons (mCallF 2 F_law_way (aCons (mVar 0) (aCons (mVar 9) aNil))) aNil)))) (sSeq (sExpr (mMeth isLst appendM (mVar 14) (aCons (mTup (aCons (mC (.str "done")) (aCons (mVar 9) (aCons (mVar 10) (aCons (mOp2 addD (mOp2 ixO (mVar 9) (mC (.int 2))) (mC (.int 1))) aNil))))) aNil))) (sSeq (sSet (mC .non) (gSubM (mOp2 ixO (mVar 4) (mVar 10)) (mC (.int 4)))) sNext)) (sSeq (sIf (bOr (bBool (mOp2 eqO (mCallF 2 F_law_goal (aCons (mVar 0) (aCons (mVar 9) aNil))) (mVar 10))) (bBool (mOp2 ltO (mCallN lenN (aCons (mOp2 ixO (mVar 5) (mCallF 2 F_law_goal (aCons (mVar 0) (aCons (mVar 9) aNil)))) aNil)) (mOp2 ixO (mOp2 ixO (mOp2 ixO (mVar 0) (mC (.int 0))) (mCallF 2 F_law_goal (aCons (mVar 0) (aCons (mVar 9) aNil)))) (mC (.int 1)))))) (sSeq (sExpr (mMeth isLst appendM (mOp2 ixO (mVar 5) (mCallF 2 F_law_goal (aCons (mVar 0) (aCons (mVar 9) aNil)))) (aCons (mVar 9) aNil))) (sSeq (sExpr (mMeth isLst appendM (mVar 14) (aCons (mTup (aCons (mC (.str "queued")) (aCons (mVar 9) (aCons (mCallF 2 F_law_goal (aCons (mVar 0) (aCons (mVar 9) aNil))) (aCons (mCallN lenN (aCons (mOp2 ixO (mVar 5) (mCallF 2 F_law_goal (aCons (mVar 0) (aCons (mVar 9) aNil)))) aNil)) aNil))))) aNil))) (sSeq (sSet (mC .non) (gSubM (mOp2 ixO (mVar 4) (mVar 10)) (mC (.int 4)))) sNext))) sNext) sNext)) sNext)) sNext) sNext) (mR p.d sd wd td B C K o7 o8 o9 (some (.int k)) ph sk gt R N I) h Q := by
  obtain ⟨b, hb⟩ : ∃ b, m.bays[k]? = some b := ⟨_, List.getElem?_eq_getElem (by rw [o.bl]; exact hk)⟩
  obtain ⟨l, hl, Lb⟩ := H.pb.get hb
  have hlm := List.mem_of_getElem? hl
  have lR : l ≠ R := fun e => Z.br (e ▸ hlm)
  have bo := o.hold b (List.mem_of_getElem? hb)
  have r1 := o.rows
  have hW : l ∈ R :: (bl ++ ql) := by simp [hlm]
  have RW : R ∈ R :: (bl ++ ql) := by simp
  have Lb' : Ls h l [.int b.broken, .int b.busy, .int b.used, .str b.kind, holdD b.hold] := Lb
  have w2 : m.rows.length < 16777216 := by omega
  cases ch : b.hold with
  | none =>
    have e1 : p.out1 m k = m := by unfold Pl.out1; rw [hb]; simp [ch]
    rw [e1] at q
    simp [H.lb.i, hl, Lb'.i, ch]
    exact q h _ (Fm.refl _ _) H
  | some xl =>
  obtain ⟨x, left⟩ := xl
  rw [ch] at bo
  by_cases c0 : left = 0
  · subst c0
    simp [H.lb.i, hl, Lb'.i, ch]
    refine way_ok hp bo.1.1 fun h1 f1 => ?_
    have H1 := H.keep0 f1
    have Lb1 := Lb'.keep0 f1
    have z1 := Lb1.l; have z1l := isLst_of Lb1; have z2 := Lb1.lt; have z3 := H1.lr.l; have z3l := isLst_of H1.lr; have z4 := H1.lr.lt
    by_cases c1 : x.step = (p.way x).length
    · have BR' : B ≠ R := Z.BR
      simp [c1, z1, z1l, z2, z3, z3l, z4, w2, H1.lb.i, hl, lR, Ne.symm lR, ixN, Ne.symm BR']
      have e1 : p.out1 m k = ({ m with rows := m.rows ++ [Row.mk "done" (some x) (some k) (x.age + 1)] } : Mo).free k := by unfold Pl.out1; rw [hb]; simp [ch, c1]
      rw [e1] at q
      have F1 : ∀ a, Fm [R] h1 (h1.set R a) := fun a => (Fm.refl _ _).set _ (.inl (by simp))
      have H2 := H1.rowsL Z (F1 _) (rows := m.rows ++ [Row.mk "done" (some x) (some k) (x.age + 1)]) (H1.lr.set _)
      have F2 : ∀ h2 a, Fm [l] h2 (h2.set l a) := fun h2 a => (Fm.refl _ _).set _ (.inl (by simp))
      refine q _ _ (Fm.set (Fm.set f1.of0 _ (.inl RW)) _ (.inl hW)) ?_
      refine MoH.free (m := { m with rows := _ }) Z (h := h1.set R _) (by simpa [Row.d] using H2) hb hl (F2 _ _) ?_
      simpa [Bay.ds] using (Lb1.oth (m := R) (Ne.symm lR)).set (Bay.ds { b with hold := none })
    · have hx : PartOk p x := ⟨bo.1.1, by have := bo.1.2.2.2; omega⟩
      have c1' : ¬ ((x.step : Int) = ((p.way x).length : Int)) := by omega
      simp [c1']
      refine goal_ok hp hx fun h2 f2 => ?_
      have f12 := f1.trans f2
      have H2 := H.keep0 f12
      have hg := goal_lt hp hx
      have hrow := Pl.row_at hg
      obtain ⟨qu, hq⟩ : ∃ qu, m.queues[p.goal x]? = some qu := ⟨_, List.getElem?_eq_getElem (by rw [o.ql]; exact hg)⟩
      have eql : m.qlen (p.goal x) = qu.length := by unfold Mo.qlen; rw [hq]; rfl
      by_cases c2 : p.goal x = k
      · have c2' : (p.goal x : Int) = (k : Int) := by omega
        have e1 : p.out1 m k = (m.push (p.goal x) x).free k := by unfold Pl.out1; rw [hb]; simp [ch, c1, c2]
        rw [e1] at q
        simp [c2']
        simpa using outpush_step (sd := sd) (wd := wd) (td := td) (o7 := o7) (o8 := o8) (K := K) (N := N) (I := I) (ph := ph) (sk := sk) (gt := gt) hp hk hx hb Z o H2 q1 q2 (Q := Q) (fun h' F H => q h' _ (f12.of0.trans F) H)
      · have c2' : ¬ ((p.goal x : Int) = (k : Int)) := by omega
        simp [c2']
        refine goal_ok hp hx fun h3 f3 => ?_
        obtain ⟨l2, hl2, Lq⟩ := (H2.keep0 f3).pc.get hq
        simp [(H2.keep0 f3).lc.i, hl2, Lq.i]
        refine goal_ok hp hx fun h4 f4 => ?_
        have f14 := (f12.trans f3).trans f4
        have H4 := H.keep0 f14
        simp [hrow]
        by_cases c3 : (qu.length : Int) < (p.row (p.goal x)).room
        · have e1 : p.out1 m k = (m.push (p.goal x) x).free k := by unfold Pl.out1; rw [hb]; simp [ch, c1, c2, eql, c3]
          rw [e1] at q
          simp [c3]
          simpa using outpush_step (sd := sd) (wd := wd) (td := td) (o7 := o7) (o8 := o8) (K := K) (N := N) (I := I) (ph := ph) (sk := sk) (gt := gt) hp hk hx hb Z o H4 q1 q2 (Q := Q) (fun h' F H => q h' _ (f14.of0.trans F) H)
        · have e1 : p.out1 m k = m := by unfold Pl.out1; rw [hb]; simp [ch, c1, c2, eql, c3]
          rw [e1] at q
          simp [c3]
          exact q h4 _ f14.of0 H4
  · have e1 : p.out1 m k = m := by unfold Pl.out1; rw [hb]; simp [ch, c0]
    rw [e1] at q
    simp [H.lb.i, hl, Lb'.i, ch, c0]
    exact q h _ (Fm.refl _ _) H
end
end MP

/-! text SP9 -/
set_option Elab.async false
set_option linter.all false
set_option maxRecDepth 100000
set_option maxHeartbeats 4000000
namespace MP
open PySem PySem.Spec PyProof.Rows
open L2 hiding St
/-- [list(x) for x in xs]: new lists, one for one -/
theorem wLc_lists {α : Type} {enc : α → List D} {i : Nat} {ρ0 : Rho} {as : List α} {h : Hs} {Q : Hs → Prop} (hi : i < ρ0.length) (hs : as.length < sizeLine)
    (fin : ∀ ls h', Fm [] h h' → Ls h' h.length (ls.map D.loc) → Pts enc h' ls as → (∀ l ∈ ls, h.length < l ∧ l < h'.length) → ls.Nodup → Q h') :
    wLc none (gVar i) bYes (mCallN listN (aCons (mVar i) aNil)) ρ0 h.length (as.map fun a => .tup (enc a)) (h ++ [.lst []]) Q := by
  refine wLc_inv (fun j acc h1 => ∃ ls, acc = ls.map D.loc ∧ Fm [] h h1 ∧ h.length < h1.length ∧ Pts enc h1 ls (as.take j) ∧ (∀ l ∈ ls, h.length < l ∧ l < h1.length) ∧ ls.Nodup) (app_new h _) (by simpa using hs)
    ⟨[], rfl, (Fm.refl _ _).app _, by simp, ⟨by simp, by simp⟩, by simp, by simp⟩ (fun _ _ _ _ _ => trivial) (fun j x acc h1 hx ⟨ls, ha, F, hlt, P, hL, nd⟩ he hl => ?_) (fun acc h1 ⟨ls, ha, F, hlt, P, hL, nd⟩ he => ?_)
  · rw [List.getElem?_map] at hx
    cases ea : as[j]? with
    | none => rw [ea] at hx; cases hx
    | some a =>
    rw [ea] at hx
    cases hx
    have hj := (List.getElem?_eq_some_iff.mp ea).1
    have hll : ls.length = j := by rw [P.len]; simp; omega
    simp
    rw [List.getElem?_set_self hi]
    simp
    have F1 : Fm [] h1 (h1 ++ [.lst (enc a)]) := (Fm.refl _ _).app _
    have F2 : ∀ o, Fm [h.length] (h1 ++ [AO.lst (enc a)]) ((h1 ++ [AO.lst (enc a)]).set h.length o) := fun o => (Fm.refl _ _).set _ (.inl (by simp))
    refine ⟨app_get he _, ls ++ [h1.length], by simp [ha], (F.trans F1).set _ (.inr (Nat.le_refl _)), ?_, ⟨?_, ?_⟩, fun l hl => ?_, ?_⟩
    · omega
    · simp [hll]; omega
    · intro i' l x e1 e2
      rw [List.take_add_one, ea] at e2
      by_cases hc : i' < ls.length
      · rw [List.getElem?_append_left hc] at e1
        rw [List.getElem?_append_left (by simp; omega)] at e2
        have hlm := (hL l (List.mem_of_getElem? e1))
        exact ((P.at_ i' l x e1 e2).keep0 F1).keep (F2 _) (by simp; omega)
      · have h1' := (List.getElem?_eq_some_iff.mp e1).1
        have : i' = ls.length := by simp at h1'; omega
        subst this
        simp at e1
        subst e1
        rw [List.getElem?_append_right (by simp; omega)] at e2
        have : ls.length - (as.take j).length = 0 := by simp; omega
        rw [this] at e2
        simp at e2
        subst e2
        exact (Ls.new h1 (enc a)).keep (F2 _) (by simp; omega)
    · rcases List.mem_append.mp hl with hl | hl
      · have := hL l hl; omega
      · rw [List.mem_singleton.mp hl]; omega
    · rw [List.nodup_append]
      refine ⟨nd, by simp, fun x hx y hy => ?_⟩
      rw [List.mem_singleton.mp hy]
      have := hL x hx
      omega
  · rw [List.length_map, List.take_length] at P
    subst ha
    exact fin ls h1 F he P hL nd
theorem index_strs {h : Hs} {n : Nat} {xs : List Str} {w : Str} (e : itemsAt h n = some (xs.map D.str)) (hw : w ∈ xs) : indexM (.loc n) [.str w] h = some (.int (xs.idxOf w), h) := by
  unfold indexM
  simp only [e]
  rw [if_pos ⟨rfl, by simp [flatD]⟩]
  have : (xs.map D.str).findIdx? (fun z => eqF z (.str w)) = some (xs.idxOf w) := by
    rw [List.findIdx?_map]
    have hf : ((fun z => eqF z (D.str w)) ∘ D.str) = fun z => z == w := by funext z; rfl
    rw [hf, List.findIdx?_eq_some_iff_findIdx_eq]
    refine ⟨?_, rfl⟩
    have := List.idxOf_lt_length_of_mem hw
    simpa using this
  rw [this]
section
variable {p : Pl} {h : Hs} {B C R K N I : Nat} {bl ql : List Nat} {m : Mo} {sd wd ph sk gt : D} {o7 o8 o9 o10 : Option D} {Q : QS}
def tagsD (tags : List Int) : D := .tup (tags.map fun n => .tup [.int n])
theorem tags_plain (tags : List Int) : (tags.map fun n => D.tup [.int n]).all (plain 2) = true := by
  rw [List.all_map, List.all_eq_true]
  intro n _
  rfl
theorem came_step {k c : Nat} {tags : List Int} {coming : List Nat} {inside : List Part} (hc : coming[k]? = some c) (ht : tags = [] ∨ tags.length = coming.length) (Z : Lay B C R bl ql) (H : MoH h B C R bl ql m) (LK : Ls h K (coming.map fun (n : Nat) => D.int n)) (LI : Ls h I (inside.map Part.d)) (In : I ∉ allP B C R bl ql) (Kn : K ≠ R ∧ K ≠ I)
    (q2 : m.rows.length ≤ 10000000) (q3 : inside.length ≤ 10000000)
    (q : ∀ h', Fm [R, I] h h' → MoH h' B C R bl ql { m with rows := m.rows ++ [came (freshAt tags k c)] } → Ls h' I ((inside ++ [freshAt tags k c]).map Part.d) → Q .nx (mR p.d sd wd (tagsD tags) B C K (some (.int k)) o8 o9 o10 ph sk gt R N I) h') :
    wS (sSeq (sExpr (mMeth isLst appendM (mVar 16) (aCons (mOp2 addD (mTup (aCons (mOp2 ixO (mVar 6) (mVar 7)) (aCons (mC (.int 0)) (aCons (mC (.int 0)) (aCons (mC (.int 0)) aNil))))) (mIf (bBool (mOp2 neO (mVar 3) (mTup aNil))) (mOp2 ixO (mVar 3) (mVar 7)) (mTup aNil))) aNil))) (sSeq (sExpr (mMeth isLst appendM (mVar 14) (aCons (mTup (aCons (mC (.str "came")) (aCons (mOp2 ixO (mVar 16) (mOp1 negO (mC (.int 1)))) (aCons (mC .non) (aCons (mOp2 ixO (mVar 6) (mVar 7)) aNil))))) aNil))) sNext)) (mR p.d sd wd (tagsD tags) B C K (some (.int k)) o8 o9 o10 ph sk gt R N I) h Q := by
  have hk := (List.getElem?_eq_some_iff.mp hc).1
  have IR : I ≠ R := fun e => In (by simp [e])
  have e0 : neO (tagsD tags) (.tup []) h = some (.bl (!tags.isEmpty), h) := by
    unfold tagsD
    rw [ne_nilT (n := 2) (by omega) (tags_plain tags)]
    cases tags <;> rfl
  have z1 := LI.l; have z1l := isLst_of LI; have z2 := LI.lt; have z3 := H.lr.l; have z3l := isLst_of H.lr; have z4 := H.lr.lt
  have w1 : inside.length < 16777216 := by omega
  have w2 : m.rows.length < 16777216 := by omega
  have F1 : ∀ a b, Fm [R, I] h ((h.set I a).set R b) := fun a b => ((Fm.refl _ _).set _ (.inl (by simp))).set _ (.inl (by simp))
  have F2 : ∀ a, Fm [I] h (h.set I a) := fun a => (Fm.refl _ _).set _ (.inl (by simp))
  have F3 : ∀ h b, Fm [R] h (h.set R b) := fun h b => (Fm.refl _ _).set _ (.inl (by simp))
  have fin : ∀ y : Part, y = freshAt tags k c → Q .nx (mR p.d sd wd (tagsD tags) B C K (some (.int k)) o8 o9 o10 ph sk gt R N I) ((h.set I (.lst (inside.map Part.d ++ [y.d]))).set R (.lst (m.rows.map Row.d ++ [.tup [.str (Str.ofString "came"), y.d, .non, .int c]]))) := by
    intro y ey
    subst ey
    refine q _ (F1 _ _) ?_ ?_
    · refine (H.out (F2 _) (by simpa using In)).rowsL Z (F3 _ _) ?_
      have := (H.out (F2 (.lst (inside.map Part.d ++ [(freshAt tags k c).d]))) (by simpa using In)).lr.set (m.rows.map Row.d ++ [.tup [.str (Str.ofString "came"), (freshAt tags k c).d, .non, .int c]])
      simpa [came, Row.d, freshAt] using this
    · have := (LI.set (inside.map Part.d ++ [(freshAt tags k c).d])).oth (m := R) (o := .lst (m.rows.map Row.d ++ [.tup [.str (Str.ofString "came"), (freshAt tags k c).d, .non, .int c]])) (Ne.symm IR)
      simpa using this
  cases tags with
  | nil =>
    have e1 : freshAt [] k c = ⟨c, 0, 0, 0, none⟩ := rfl
    simp [LK.i, hc, e0, z1, z1l, z2, z3, z3l, z4, w1, w2, IR, Ne.symm IR, List.getElem?_set, Ne.symm Kn.1, Ne.symm Kn.2]
    exact fin ⟨c, 0, 0, 0, none⟩ rfl
  | cons t ts =>
    have hl : (t :: ts).length = coming.length := by rcases ht with h | h; cases h; exact h
    have e2 : (t :: ts)[k]? = some ((t :: ts)[k]'(by omega)) := List.getElem?_eq_getElem _
    generalize ((t :: ts)[k]'(by omega)) = tk at e2
    have e1 : freshAt (t :: ts) k c = ⟨c, 0, 0, 0, some tk⟩ := by unfold freshAt; rw [e2]
    have e3 : ixO (tagsD (t :: ts)) (.int k) h = some (.tup [.int tk], h) := by
      unfold tagsD
      rw [ix_tup, atI_cast, List.getElem?_map, e2]; rfl
    simp [LK.i, hc, e0, e3, z1, z1l, z2, z3, z3l, z4, w1, w2, IR, Ne.symm IR, Ne.symm Kn.1, Ne.symm Kn.2]
    exact fin ⟨c, 0, 0, 0, some tk⟩ e1.symm
/-! ### the moment -/
theorem fresh_ok (hp : PlOk p) {phase : Int} {tags : List Int} : ∀ x ∈ p.fresh phase tags, PartOk p x := by
  intro x hx
  obtain ⟨i, hi, e⟩ := List.mem_mapIdx.mp hx
  have hc : (p.coming phase)[i] < p.orders.length := by
    exact List.mem_range.mp (List.mem_filter.mp (List.getElem_mem hi)).1
  subst e
  refine ⟨hc, ?_⟩
  show 0 < (p.way _).length
  exact List.length_pos_iff.mpr (Pl.way_steps hp (x := freshAt tags i (p.coming phase)[i]) hc).1
theorem coming_len (p : Pl) (phase : Int) : (p.coming phase).length ≤ p.orders.length := by
  unfold Pl.coming
  refine Nat.le_trans (List.length_filter_le _ _) ?_
  simp
theorem Pl.order_phase {p : Pl} {k : Nat} (h : k < p.orders.length) : ∃ o, p.orders[k]? = some o ∧ o.phase = ((p.orders[k]?).map Order.phase).getD 0 := by
  refine ⟨_, List.getElem?_eq_getElem h, ?_⟩
  rw [List.getElem?_eq_getElem h]
  rfl
theorem MoOk.rowsA {m : Mo} {qb rb n : Nat} {rows : List Row} (o : MoOk p m qb rb) (hr : rows.length ≤ n) : MoOk p { m with rows := m.rows ++ rows } qb (rb + n) := ⟨o.bl, o.ql, o.hold, o.part, by have := o.rows; simp; omega⟩
theorem enter_ok {m : Mo} {qb rb : Nat} : ∀ (xs : List Part) (m : Mo) (st : List Part) (qb rb : Nat), MoOk p m qb rb → (∀ x ∈ xs, PartOk p x) → MoOk p (xs.foldl p.enter1 (m, st)).1 (qb + xs.length) (rb + xs.length) ∧ (xs.foldl p.enter1 (m, st)).2.length ≤ st.length + xs.length ∧ ((∀ x ∈ st, PartOk p x) → ∀ x ∈ (xs.foldl p.enter1 (m, st)).2, PartOk p x)
  | [], m, st, qb, rb, o, h => ⟨o, Nat.le_refl _, fun h => h⟩
  | x :: xs, m, st, qb, rb, o, h => by
    have o1 := MoOk.enter1 (st := st) o (h x List.mem_cons_self)
    have h2 : (p.enter1 (m, st) x).2.length ≤ st.length + 1 ∧ ((∀ y ∈ st, PartOk p y) → ∀ y ∈ (p.enter1 (m, st) x).2, PartOk p y) := by
      unfold Pl.enter1
      split
      · exact ⟨by simp, fun h => h⟩
      · refine ⟨by simp, fun hst y hy => ?_⟩
        rcases List.mem_append.mp hy with hy | hy
        · exact hst y hy
        · rw [List.mem_singleton.mp hy]; exact h x List.mem_cons_self
    obtain ⟨a, b, c⟩ := enter_ok (m := m) (qb := qb) (rb := rb) xs (p.enter1 (m, st) x).1 (p.enter1 (m, st) x).2 (qb + 1) (rb + 1) o1 fun y hy => h y (List.mem_cons_of_mem _ hy)
    refine ⟨a.mono ?_ ?_, ?_, fun hst => c (h2.2 hst)⟩
    · simp; omega
    · simp; omega
    · have := h2.1; simp only [List.foldl_cons, List.length_cons]; have b' : (xs.foldl p.enter1 (p.enter1 (m, st) x)).2.length ≤ (p.enter1 (m, st) x).2.length + xs.length := b; omega
theorem range_fold {α : Type} (f : α → Nat → α) (a : α) (i : Nat) : (List.range (i + 1)).foldl f a = f ((List.range i).foldl f a) i := by
  rw [List.range_succ, List.foldl_append]; rfl
theorem begins_ok (hp : PlOk p) {m : Mo} {qb rb : Nat} (o : MoOk p m qb rb) : ∀ i, MoOk p ((List.range i).foldl p.begin1 m) qb (rb + 2 * i)
  | 0 => o
  | i + 1 => by rw [range_fold]; exact ((begins_ok hp o i).begin1 hp).mono (Nat.le_refl _) (by omega)
theorem works_ok (hp : PlOk p) {m : Mo} {word : Str} {qb rb : Nat} (o : MoOk p m qb rb) : ∀ i, MoOk p ((List.range i).foldl (p.work1 word) m) qb (rb + i)
  | 0 => o
  | i + 1 => by rw [range_fold]; exact ((works_ok hp o i).work1 hp).mono (Nat.le_refl _) (by omega)
theorem outs_ok {m : Mo} {qb rb : Nat} (o : MoOk p m qb rb) : ∀ i, MoOk p (p.outs i m) (qb + i) (rb + i)
  | 0 => o
  | i + 1 => by unfold Pl.outs; rw [range_fold]; exact ((outs_ok o i).out1).mono (by omega) (by omega)
/-- what comes before the k-th bay's work does not touch it -/
theorem works_at {m : Mo} {word : Str} {k : Nat} : ∀ i, i ≤ k → ((List.range i).foldl (p.work1 word) m).bays[k]? = m.bays[k]?
  | 0, _ => rfl
  | i + 1, h => by
    rw [range_fold, ← works_at (m := m) (word := word) i (by omega)]
    generalize (List.range i).foldl (p.work1 word) m = m'
    unfold Pl.work1
    split
    · show (m'.bays.set i _)[k]? = _
      rw [List.getElem?_set_ne (by omega)]
    · rfl
theorem range_at {n i : Nat} {x : D} (h : ((List.range n).map fun (k : Nat) => D.int k)[i]? = some x) : i < n ∧ x = .int i := by
  rw [List.getElem?_map] at h
  by_cases hi : i < n
  · rw [List.getElem?_range hi] at h; cases h; exact ⟨hi, rfl⟩
  · rw [List.getElem?_eq_none (by simp; omega)] at h; cases h
theorem fresh_len (p : Pl) (phase : Int) (tags : List Int) : (p.fresh phase tags).length = (p.coming phase).length := by unfold Pl.fresh; simp
theorem fresh_at {phase : Int} {tags : List Int} {i c : Nat} (h : (p.coming phase)[i]? = some c) : (p.fresh phase tags)[i]? = some (freshAt tags i c) := by
  unfold Pl.fresh; rw [List.getElem?_mapIdx, h]; rfl
theorem moment_rest {s : Sta} {word : Str} {tags : List Int} {gb qb : Nat} {m : Mo} {Q : QE} (hp : PlOk p) (hg : ∀ x ∈ s.gate, PartOk p x) (hgl : s.gate.length ≤ gb) (hsl : s.strikes.length ≤ gb) (ht : tags = [] ∨ tags.length = (p.coming s.phase).length)
    (em : m = p.struck word ⟨s.bays, s.queues, []⟩) (hbk : ∀ k b, (p.mo2 s word tags).bays[k]? = some b → BackOk p k b word) (g1 : gb ≤ 10000) (g2 : qb ≤ 1000000)
    (Z : Lay B C R bl ql) (o : MoOk p m qb 1) (H : MoH h B C R bl ql m) (LN : Ls h N (p.names.map D.str)) (Nn : N ∉ allP B C R bl ql) (LI : Ls h I (s.gate.map Part.d)) (In : I ∉ allP B C R bl ql) (NI : N ≠ I)
    (q : ∀ h', Fm (I :: R :: (bl ++ ql)) h h' → Ls h' R ((p.told s word tags).map Row.d) → Q (.tup [(p.next s word tags).d, .loc R]) h') :
    wS (sSeq (sSet (mLc (iRange1 (mCallN lenN (aCons (mOp2 ixO (mVar 0) (mC (.int 3))) aNil))) (gVar 7) (bBool (mOp2 eqO (mOp2 ixO (mOp2 ixO (mOp2 ixO (mVar 0) (mC (.int 3))) (mVar 7)) (mC (.int 0))) (mVar 11))) (mVar 7) [7]) (gVar 6)) (sSeq (sFor (iRange1 (mCallN lenN (aCons (mVar 6) aNil))) (gVar 7) (sSeq (sExpr (mMeth isLst appendM (mVar 16) (aCons (mOp2 addD (mTup (aCons (mOp2 ixO (mVar 6) (mVar 7)) (aCons (mC (.int 0)) (aCons (mC (.int 0)) (aCons (mC (.int 0)) aNil))))) (mIf (bBool (mOp2 neO (mVar 3) (mTup aNil))) (mOp2 ixO (mVar 3) (mVar 7)) (mTup aNil))) aNil))) (sSeq (sExpr (mMeth isLst appendM (mVar 14) (aCons (mTup (aCons (mC (.str "came")) (aCons (mOp2 ixO (mVar 16) (mOp1 negO (mC (.int 1)))) (aCons (mC .non) (aCons (mOp2 ixO (mVar 6) (mVar 7)) aNil))))) aNil))) sNext))) (sSeq (sSet (mLst aNil) (gVar 8)) (sSeq (sFor (iSeq (mVar 16)) (gVar 9) (sSeq (sSet (mCallF 2 F_law_goal (aCons (mVar 0) (aCons (mVar 9) aNil))) (gVar 10)) (sSeq (sIf (bBool (mOp2 ltO (mCallN lenN (aCons (mOp2 ixO (mVar 5) (mVar 10)) aNil)) (mOp2 ixO (mOp2 ixO (mOp2 ixO (mVar 0) (mC (.int 0))) (mVar 10)) (mC (.int 1))))) (sSeq (sExpr (mMeth isLst appendM (mOp2 ixO (mVar 5) (mVar 10)) (aCons (mVar 9) aNil))) (sSeq (sExpr (mMeth isLst appendM (mVar 14) (aCons (mTup (aCons (mC (.str "queued")) (aCons (mVar 9) (aCons (mVar 10) (aCons (mCallN lenN (aCons (mOp2 ixO (mVar 5) (mVar 10)) aNil)) aNil))))) aNil))) sNext)) (sSeq (sExpr (mMeth isLst appendM (mVar 8) (aCons (mVar 9) aNil))) sNext)) sNext))) (sSeq (sFor (iRange1 (mCallN lenN (aCons (mVar 15) aNil))) (gVar 10) (sSeq (sIf (bAnd (bBool (mOp2 eqO (mOp2 ixO (mOp2 ixO (mVar 4) (mVar 10)) (mC (.int 0))) (mC (.int 0)))) (bAnd (bBool (mOp2 isO (mOp2 ixO (mOp2 ixO (mVar 4) (mVar 10)) (mC (.int 4))) (mC .non))) (bBool (mOp2 neO (mOp2 ixO (mVar 5) (mVar 10)) (mLst aNil))))) (sSeq (sExpr (mCallF 5 F_law_begin (aCons (mVar 0) (aCons (mVar 10) (aCons (mOp2 ixO (mVar 4) (mVar 10)) (aCons (mMeth isLst popM (mOp2 ixO (mVar 5) (mVar 10)) (aCons (mC (.int 0)) aNil)) (aCons (mVar 14) aNil))))))) sNext) sNext) sNext)) (sSeq (sFor (iRange1 (mCallN lenN (aCons (mVar 15) aNil))) (gVar 10) (sSeq (sExpr (mCallF 5 F_law_work (aCons (mVar 0) (aCons (mVar 10) (aCons (mOp2 ixO (mVar 4) (mVar 10)) (aCons (mVar 2) (aCons (mVar 14) aNil))))))) sNext)) (sSeq (sFor (iRange3 (mOp2 subD (mCallN lenN (aCons (mVar 15) aNil)) (mC (.int 1))) (mOp1 negO (mC (.int 1))) (mOp1 negO (mC (.int 1)))) (gVar 10) (sSeq (sIf (bAnd (bBool (mOp2 isNotO (mOp2 ixO (mOp2 ixO (mVar 4) (mVar 10)) (mC (.int 4))) (mC .non))) (bBool (mOp2 eqO (mOp2 ixO (mOp2 ixO (mOp2 ixO (mVar 4) (mVar 10)) (mC (.int 4))) (mC (.int 1))) (mC (.int 0))))) (sSeq (sSet (mOp2 ixO (mOp2 ixO (mOp2 ixO (mVar 4) (mVar 10)) (mC (.int 4))) (mC (.int 0))) (gVar 9)) (sSeq (sIf (bBool (mOp2 eqO (mOp2 ixO (mVar 9) (mC (.int 1))) (mCallN lenN (aCons (mCallF 2 F_law_way (aCons (mVar 0) (aCons (mVar 9) aNil))) aNil)))) (sSeq (sExpr (mMeth isLst appendM (mVar 14) (aCons (mTup (aCons (mC (.str "done")) (aCons (mVar 9) (aCons (mVar 10) (aCons (mOp2 addD (mOp2 ixO (mVar 9) (mC (.int 2))) (mC (.int 1))) aNil))))) aNil))) (sSeq (sSet (mC .non) (gSubM (mOp2 ixO (mVar 4) (mVar 10)) (mC (.int 4)))) sNext)) (sSeq (sIf (bOr (bBool (mOp2 eqO (mCallF 2 F_law_goal (aCons (mVar 0) (aCons (mVar 9) aNil))) (mVar 10))) (bBool (mOp2 ltO (mCallN lenN (aCons (mOp2 ixO (mVar 5) (mCallF 2 F_law_goal (aCons (mVar 0) (aCons (mVar 9) aNil)))) aNil)) (mOp2 ixO (mOp2 ixO (mOp2 ixO (mVar 0) (mC (.int 0))) (mCallF 2 F_law_goal (aCons (mVar 0) (aCons (mVar 9) aNil)))) (mC (.int 1)))))) (sSeq (sExpr (mMeth isLst appendM (mOp2 ixO (mVar 5) (mCallF 2 F_law_goal (aCons (mVar 0) (aCons (mVar 9) aNil)))) (aCons (mVar 9) aNil))) (sSeq (sExpr (mMeth isLst appendM (mVar 14) (aCons (mTup (aCons (mC (.str "queued")) (aCons (mVar 9) (aCons (mCallF 2 F_law_goal (aCons (mVar 0) (aCons (mVar 9) aNil))) (aCons (mCallN lenN (aCons (mOp2 ixO (mVar 5) (mCallF 2 F_law_goal (aCons (mVar 0) (aCons (mVar 9) aNil)))) aNil)) aNil))))) aNil))) (sSeq (sSet (mC .non) (gSubM (mOp2 ixO (mVar 4) (mVar 10)) (mC (.int 4)))) sNext))) sNext) sNext)) sNext)) sNext) sNext)) (sSeq (sRet (mTup (aCons (mCallF 7 F_law_closed (aCons (mVar 0) (aCons (mVar 11) (aCons (mVar 12) (aCons (mVar 4) (aCons (mVar 5) (aCons (mVar 8) (aCons (mOp2 neO (mVar 2) (mC (.str "-"))) aNil)))))))) (aCons (mVar 14) aNil)))) sNext)))))))) [some p.d, some s.d, some (.str word), some (tagsD tags), some (.loc B), some (.loc C), none, none, none, none, none, some (.int s.phase), some (.tup (s.strikes.map D.int)), some (.tup (s.gate.map Part.d)), some (.loc R), some (.loc N), some (.loc I), none, none, none] h (retK Q) := by
  have n26 := hp.len
  have o100 := hp.olen
  have c100 := coming_len p s.phase
  simp
  refine ⟨by omega, ?_⟩
  unfold rangeD
  simp
  refine wLc_pureM (dec := fun (k : Nat) => D.int k) (fun k : Nat => decide (((p.orders[k]?).map Order.phase).getD 0 = s.phase)) (fun k => .int k) (by simp; omega) (fun _ _ => trivial) (fun k h1 hx f => ?_) (fun h1 f1 LK => ?_)
  · obtain ⟨ok, e1, e2⟩ := Pl.order_phase (p := p) (k := k) (by simpa using hx)
    simp [e1]
  have LK : Ls h1 h.length ((p.coming s.phase).map fun (k : Nat) => D.int k) := LK
  have Kn : ∀ l, l < h.length → h.length ≠ l := fun l hl => by omega
  have hR := H.lr.lt; have hI := LI.lt; have hN := LN.lt
  have hK : h.length ∉ allP B C R bl ql := by
    have h1 := H.lb.lt; have h2 := H.lc.lt
    simp
    refine ⟨by omega, by omega, by omega, fun z => ?_, fun z => ?_⟩
    · obtain ⟨i, hi⟩ := List.getElem?_of_mem z
      have hi' := (List.getElem?_eq_some_iff.mp hi).1
      have := H.pb.at_ i _ (m.bays[i]'(by rw [← H.pb.len]; exact hi')) hi (List.getElem?_eq_getElem _)
      have := this.lt
      omega
    · obtain ⟨i, hi⟩ := List.getElem?_of_mem z
      have hi' := (List.getElem?_eq_some_iff.mp hi).1
      have := H.pc.at_ i _ (m.queues[i]'(by rw [← H.pc.len]; exact hi')) hi (List.getElem?_eq_getElem _)
      have := this.lt
      omega
  have KI : h.length ≠ I := by omega
  have KN : h.length ≠ N := by omega
  have KR : h.length ≠ R := by omega
  obtain ⟨K, eK⟩ : ∃ K, K = h.length := ⟨_, rfl⟩
  rw [← eK] at LK hK KI KN KR ⊢
  replace H := H.keep0 f1; replace LN := LN.keep0 f1; replace LI := LI.keep0 f1
  simp [LK.i]
  refine ⟨by omega, ?_⟩
  have W0 : ∀ l, l ∉ allP B C R bl ql → l ≠ I → l ∉ I :: R :: (bl ++ ql) := fun l h1 h2 => by
    simp at h1 ⊢
    exact ⟨h2, h1.2.2.1, h1.2.2.2.1, h1.2.2.2.2⟩
  have KW := W0 K hK KI
  have NW := W0 N Nn NI
  -- what comes
  obtain ⟨J, hJ⟩ : ∃ J : Nat → Rho → Hs → Prop, ∀ i ρ hx, J i ρ hx ↔ ∃ o7, ρ = mR p.d s.d (.str word) (tagsD tags) B C K o7 none none none (.int s.phase) (.tup (s.strikes.map D.int)) (.tup (s.gate.map Part.d)) R N I ∧ Fm (I :: R :: (bl ++ ql)) h1 hx ∧
      MoH hx B C R bl ql { m with rows := m.rows ++ ((p.fresh s.phase tags).take i).map came } ∧ Ls hx I ((s.gate ++ (p.fresh s.phase tags).take i).map Part.d) := ⟨_, fun _ _ _ => Iff.rfl⟩
  have r0 := o.rows
  refine wFor_inv J ((hJ _ _ _).mpr ⟨none, rfl, Fm.refl _ _, by simpa using H, by simpa using LI⟩) (fun i x ρ hx hi Ji => ?_) (fun ρ hx Ji => ?_)
  · obtain ⟨o7, e, F, Hx, Lx⟩ := (hJ _ _ _).mp Ji
    subst e
    obtain ⟨hi1, rfl⟩ := range_at hi
    have hc : (p.coming s.phase)[i]? = some ((p.coming s.phase)[i]) := List.getElem?_eq_getElem hi1
    generalize (p.coming s.phase)[i] = c at hc
    have hf := fresh_at (tags := tags) hc
    have et : (p.fresh s.phase tags).take (i + 1) = (p.fresh s.phase tags).take i ++ [freshAt tags i c] := by rw [List.take_add_one, hf]; rfl
    have tl : ((p.fresh s.phase tags).take i).length ≤ 100 := by simp [fresh_len]; omega
    rw [wG_Var]
    refine ⟨trivial, ?_⟩
    refine came_step (m := { m with rows := m.rows ++ ((p.fresh s.phase tags).take i).map came }) hc ht Z Hx (LK.keep F KW) Lx In ⟨KR, KI⟩ (by simp at tl ⊢; omega) (by simp at tl ⊢; omega) fun h' F' H' L' => ?_
    refine (hJ _ _ _).mpr ⟨_, rfl, F.trans (F'.mono (by simp)), ?_, ?_⟩
    · rw [et]; simpa using H'
    · rw [et]; simpa using L'
  obtain ⟨o7, e, F, H0, LI0⟩ := (hJ _ _ _).mp Ji
  subst e
  clear hJ Ji J
  have e1 : (List.range (p.coming s.phase).length).length = (p.fresh s.phase tags).length := by simp [fresh_len]
  rw [List.length_map, e1, List.take_length] at H0 LI0
  have hin : ∀ x ∈ s.gate ++ p.fresh s.phase tags, PartOk p x := fun x hx => by
    rcases List.mem_append.mp hx with hx | hx
    · exact hg x hx
    · exact fresh_ok hp x hx
  have LN0 := LN.keep F NW
  have il : (s.gate ++ p.fresh s.phase tags).length ≤ gb + 100 := by rw [List.length_append, fresh_len]; omega
  have em0 : p.mo0 s word tags = { m with rows := m.rows ++ (p.fresh s.phase tags).map came } := by rw [em]; rfl
  rw [← em0] at H0
  have o0 : MoOk p (p.mo0 s word tags) qb 101 := by rw [em0]; exact (o.rowsA (n := 100) (by simp [fresh_len]; omega)).mono (Nat.le_refl _) (by omega)
  generalize hins : s.gate ++ p.fresh s.phase tags = inside at *
  -- they enter
  refine ⟨trivial, ?_⟩
  simp
  have f2 : Fm [] hx (hx ++ [.lst []]) := (Fm.refl _ _).app _
  have LY := Ls.new hx []
  have hb : ∀ l, l ∈ I :: N :: allP B C R bl ql → l < hx.length := by
    intro l hl
    simp at hl
    rcases hl with rfl | rfl | rfl | rfl | rfl | hl | hl
    · exact LI0.lt
    · exact LN0.lt
    · exact H0.lb.lt
    · exact H0.lc.lt
    · exact H0.lr.lt
    · obtain ⟨i, hi⟩ := List.getElem?_of_mem hl
      have hi' := (List.getElem?_eq_some_iff.mp hi).1
      exact (H0.pb.at_ i _ _ hi (List.getElem?_eq_getElem (by rw [← H0.pb.len]; exact hi'))).lt
    · obtain ⟨i, hi⟩ := List.getElem?_of_mem hl
      have hi' := (List.getElem?_eq_some_iff.mp hi).1
      exact (H0.pc.at_ i _ _ hi (List.getElem?_eq_getElem (by rw [← H0.pc.len]; exact hi'))).lt
  have YI : hx.length ≠ I := by have := hb I (by simp); omega
  have YN : hx.length ≠ N := by have := hb N (by simp); omega
  have Yn : hx.length ∉ allP B C R bl ql := fun z => by have := hb hx.length (List.mem_cons_of_mem _ (List.mem_cons_of_mem _ z)); omega
  have YW : ∀ l ∈ hx.length :: R :: (bl ++ ql), l ∈ (I :: R :: (bl ++ ql)) ∨ h.length ≤ l := by
    intro l hl
    have := F.len; have := f1.len
    simp at hl ⊢
    rcases hl with rfl | rfl | hl | hl
    · right; omega
    · left; right; left; rfl
    · left; right; right; left; exact hl
    · left; right; right; right; exact hl
  have F0 := (f1.of0.trans F).trans f2.of0
  have H0' := H0.keep0 f2
  have LI0' := LI0.keep0 f2
  have LN0' := LN0.keep0 f2
  obtain ⟨Y, eY⟩ : ∃ Y, Y = hx.length := ⟨_, rfl⟩
  rw [← eY] at LY YI YN Yn YW ⊢
  clear hb
  generalize hx ++ [AO.lst []] = h2 at *
  have NY : N ∉ Y :: R :: (bl ++ ql) := by simp at Nn ⊢; exact ⟨fun e => YN e.symm, Nn.2.2⟩
  have IY : I ∉ Y :: R :: (bl ++ ql) := by simp at In ⊢; exact ⟨fun e => YI e.symm, In.2.2⟩
  obtain ⟨J, hJ⟩ : ∃ J : Nat → Rho → Hs → Prop, ∀ i ρ hx, J i ρ hx ↔ ∃ o9 o10, ρ = mR p.d s.d (.str word) (tagsD tags) B C K o7 (some (.loc Y)) o9 o10 (.int s.phase) (.tup (s.strikes.map D.int)) (.tup (s.gate.map Part.d)) R N I ∧ Fm (Y :: R :: (bl ++ ql)) h2 hx ∧
      MoH hx B C R bl ql ((inside.take i).foldl p.enter1 (p.mo0 s word tags, [])).1 ∧ Ls hx Y (((inside.take i).foldl p.enter1 (p.mo0 s word tags, [])).2.map Part.d) := ⟨_, fun _ _ _ => Iff.rfl⟩
  refine ⟨_, LI0'.i, ?_⟩
  refine wFor_inv J ((hJ _ _ _).mpr ⟨none, none, rfl, Fm.refl _ _, by simpa using H0', by simpa using LY⟩) (fun i x ρ hx hi Ji => ?_) (fun ρ hx Ji => ?_)
  · obtain ⟨o9, o10, e, F, Hx, Lx⟩ := (hJ _ _ _).mp Ji
    subst e
    rw [List.getElem?_map] at hi
    cases ex : inside[i]? with
    | none => rw [ex] at hi; cases hi
    | some x =>
    rw [ex] at hi
    cases hi
    have hil := (List.getElem?_eq_some_iff.mp ex).1
    have et : (inside.take (i + 1)).foldl p.enter1 (p.mo0 s word tags, []) = p.enter1 ((inside.take i).foldl p.enter1 (p.mo0 s word tags, [])) x := by rw [List.take_add_one, ex, List.foldl_append]; rfl
    obtain ⟨eo, el, _⟩ := enter_ok (p := p) (m := m) (qb := 0) (rb := 0) (inside.take i) (p.mo0 s word tags) [] qb 101 o0 fun y hy => hin y (List.mem_of_mem_take hy)
    rw [wG_Var]
    refine ⟨(LI0'.keep F IY).i, ?_⟩
    have tl : (inside.take i).length ≤ gb + 100 := by simp; omega
    refine enter_step (st := ((inside.take i).foldl p.enter1 (p.mo0 s word tags, [])).2) hp (hin x (List.mem_of_getElem? ex)) Z eo Hx Lx Yn (by omega) (by omega) (by simp at el; omega) fun h' F' H' L' => ?_
    exact (hJ _ _ _).mpr ⟨_, _, rfl, F.trans F', by rw [et]; exact H', by rw [et]; exact L'⟩
  obtain ⟨o9, o10, e, F1, H1, LY1⟩ := (hJ _ _ _).mp Ji
  subst e
  clear hJ Ji J
  have hI1 := LI0'.keep F1 IY
  rw [List.length_map, List.take_length] at H1 LY1
  obtain ⟨o1, l1, k1⟩ := enter_ok (p := p) (m := m) (qb := 0) (rb := 0) inside (p.mo0 s word tags) [] qb 101 o0 hin
  have em1 : inside.foldl p.enter1 (p.mo0 s word tags, []) = p.mo1 s word tags := by unfold Pl.mo1; rw [hins]
  rw [em1] at H1 LY1 o1 l1 k1
  have LN1 := LN0'.keep F1 NY
  have G1 := F0.then F1 YW
  refine ⟨hI1.i, ?_⟩
  have nl : p.names.length = p.rows.length := by unfold Pl.names; simp
  simp [LN1.i, nl]
  refine ⟨by omega, ?_⟩
  clear hI1
  have WW : ∀ l ∈ R :: (bl ++ ql), l ∈ I :: R :: (bl ++ ql) := fun l hl => List.mem_cons_of_mem _ hl
  have NW2 : N ∉ R :: (bl ++ ql) := fun z => NW (WW _ z)
  have YW2 : Y ∉ R :: (bl ++ ql) := by simp at Yn ⊢; exact Yn.2.2
  unfold rangeD
  simp
  -- they begin
  obtain ⟨J, hJ⟩ : ∃ J : Nat → Rho → Hs → Prop, ∀ i ρ hx, J i ρ hx ↔ ∃ o9 o10, ρ = mR p.d s.d (.str word) (tagsD tags) B C K o7 (some (.loc Y)) o9 o10 (.int s.phase) (.tup (s.strikes.map D.int)) (.tup (s.gate.map Part.d)) R N I ∧ Fm (R :: (bl ++ ql)) hx hx ∧ Fm (I :: R :: (bl ++ ql)) h hx ∧ Ls hx N (p.names.map D.str) ∧ Ls hx Y ((p.mo1 s word tags).2.map Part.d) ∧
      MoH hx B C R bl ql ((List.range i).foldl p.begin1 (p.mo1 s word tags).1) := ⟨_, fun _ _ _ => Iff.rfl⟩
  rename Hs => hy
  refine wFor_inv J ((hJ _ _ _).mpr ⟨o9, o10, rfl, Fm.refl _ _, G1, LN1, LY1, H1⟩) (fun i x ρ hx hi Ji => ?_) (fun ρ hx Ji => ?_)
  · obtain ⟨o9, o10, e, _, F, Ln, Ly, Hx⟩ := (hJ _ _ _).mp Ji
    subst e
    obtain ⟨hi1, rfl⟩ := range_at hi
    have ob := begins_ok hp o1 i
    rw [wG_Var]
    refine ⟨trivial, ?_⟩
    refine begin_step hp hi1 Z ob Hx (by omega) (by omega) fun h' F' H' => ?_
    exact (hJ _ _ _).mpr ⟨_, _, rfl, Fm.refl _ _, F.trans (F'.mono WW), Ln.keep F' NW2, Ly.keep F' YW2, by rw [range_fold]; exact H'⟩
  obtain ⟨o9', o10', e, _, G2, LN2, LY2, H2⟩ := (hJ _ _ _).mp Ji
  subst e
  clear hJ Ji J
  rw [List.length_map, List.length_range] at H2
  have o2 := begins_ok hp o1 p.rows.length
  have em2 : (List.range p.rows.length).foldl p.begin1 (p.mo1 s word tags).1 = p.mo2 s word tags := rfl
  rw [em2] at H2 o2
  refine ⟨trivial, ?_⟩
  simp [LN2.i, nl]
  refine ⟨by omega, ?_⟩
  unfold rangeD
  simp
  -- they work
  obtain ⟨J, hJ⟩ : ∃ J : Nat → Rho → Hs → Prop, ∀ i ρ hx, J i ρ hx ↔ ∃ o9 o10, ρ = mR p.d s.d (.str word) (tagsD tags) B C K o7 (some (.loc Y)) o9 o10 (.int s.phase) (.tup (s.strikes.map D.int)) (.tup (s.gate.map Part.d)) R N I ∧ Fm (I :: R :: (bl ++ ql)) h hx ∧ Ls hx N (p.names.map D.str) ∧ Ls hx Y ((p.mo1 s word tags).2.map Part.d) ∧
      MoH hx B C R bl ql ((List.range i).foldl (p.work1 word) (p.mo2 s word tags)) := ⟨_, fun _ _ _ => Iff.rfl⟩
  refine wFor_inv J ((hJ _ _ _).mpr ⟨_, _, rfl, G2, LN2, LY2, H2⟩) (fun i x ρ hx hi Ji => ?_) (fun ρ hx Ji => ?_)
  · obtain ⟨o9, o10, e, F, Ln, Ly, Hx⟩ := (hJ _ _ _).mp Ji
    subst e
    obtain ⟨hi1, rfl⟩ := range_at hi
    have ob := works_ok hp (word := word) o2 i
    rw [wG_Var]
    refine ⟨trivial, ?_⟩
    refine work_step hp hi1 (fun b hb => hbk i b (by rw [← works_at (word := word) i (Nat.le_refl _)]; exact hb)) Z ob Hx (by omega) fun h' F' H' => ?_
    exact (hJ _ _ _).mpr ⟨_, _, rfl, F.trans (F'.mono WW), Ln.keep F' NW2, Ly.keep F' YW2, by rw [range_fold]; exact H'⟩
  obtain ⟨o9'', o10'', e, G3, LN3, LY3, H3⟩ := (hJ _ _ _).mp Ji
  subst e
  clear hJ Ji J
  rw [List.length_map, List.length_range] at H3
  have o3 := works_ok hp (word := word) o2 p.rows.length
  have em3 : (List.range p.rows.length).foldl (p.work1 word) (p.mo2 s word tags) = p.mo3 s word tags := rfl
  rw [em3] at H3 o3
  refine ⟨trivial, ?_⟩
  simp [LN3.i, nl]
  refine ⟨by omega, ?_⟩
  -- they go out
  obtain ⟨J, hJ⟩ : ∃ J : Nat → Rho → Hs → Prop, ∀ i ρ hx, J i ρ hx ↔ ∃ o9 o10, ρ = mR p.d s.d (.str word) (tagsD tags) B C K o7 (some (.loc Y)) o9 o10 (.int s.phase) (.tup (s.strikes.map D.int)) (.tup (s.gate.map Part.d)) R N I ∧ Fm (I :: R :: (bl ++ ql)) h hx ∧ Ls hx Y ((p.mo1 s word tags).2.map Part.d) ∧
      MoH hx B C R bl ql (p.outs i (p.mo3 s word tags)) := ⟨_, fun _ _ _ => Iff.rfl⟩
  refine wFor_inv J ((hJ _ _ _).mpr ⟨_, _, rfl, G3, LY3, H3⟩) (fun i x ρ hx hi Ji => ?_) (fun ρ hx Ji => ?_)
  · obtain ⟨o9, o10, e, F, Ly, Hx⟩ := (hJ _ _ _).mp Ji
    subst e
    obtain ⟨hi1, ex⟩ := rangeD_at hi
    have hi2 : i < p.rows.length := by omega
    have ex' : x = .int ((p.rows.length - 1 - i : Nat) : Int) := by rw [ex]; congr 1; omega
    subst ex'
    have ob := outs_ok o3 i
    rw [wG_Var]
    refine ⟨trivial, ?_⟩
    refine out_step hp (k := p.rows.length - 1 - i) (by omega) Z ob Hx (by omega) (by omega) fun h' o9' F' H' => ?_
    exact (hJ _ _ _).mpr ⟨_, _, rfl, F.trans (F'.mono WW), Ly.keep F' YW2, by unfold Pl.outs at H' ⊢; rw [range_fold]; exact H'⟩
  obtain ⟨o9''', o10''', e, G4, LY4, H4⟩ := (hJ _ _ _).mp Ji
  subst e
  clear hJ Ji J
  rw [rangeD_len] at H4
  have o4 := outs_ok o3 p.rows.length
  have em4 : p.outs p.rows.length (p.mo3 s word tags) = p.mo4 s word tags := rfl
  rw [em4] at H4 o4
  refine ⟨trivial, ?_⟩
  simp
  refine closed_ok hp H4.lb H4.pb H4.lc H4.pc LY4 (by rw [o4.bl]; omega) (by rw [o4.ql]; omega) (fun y hy => by have := (o4.part y hy).2; omega) (by simp at l1; omega) (by omega) fun h' f' => ?_
  have LR := H4.lr.keep0 f'
  have fin := q h' (G4.then0 f') LR
  exact fin
theorem idx_lt {word : Str} (h : word ∈ p.names) : p.names.idxOf word < p.rows.length := by
  have := List.idxOf_lt_length_of_mem h
  unfold Pl.names at this ⊢
  simpa using this
theorem struck_ok {s : Sta} {word : Str} {gb qb : Nat} (hs : StaOk p s gb qb) : MoOk p (p.struck word ⟨s.bays, s.queues, []⟩) qb 1 := by
  unfold Pl.struck
  split
  · exact {
      bl := by simp [hs.bl]
      ql := hs.ql
      hold := fun b hb => by
        rcases mem_modify hb with hb | ⟨b', hb', rfl⟩
        · exact hs.hold b hb
        · exact hs.hold b' (List.mem_of_getElem? hb')
      part := hs.part
      rows := by simp }
  · exact ⟨hs.bl, hs.ql, hs.hold, hs.part, by simp⟩
theorem moment_ok {s : Sta} {word : Str} {tags : List Int} {gb qb : Nat} {Q : QE} (hp : PlOk p) (hs : StaOk p s gb qb) (ht : tags = [] ∨ tags.length = (p.coming s.phase).length)
    (hbk : ∀ k b, (p.mo2 s word tags).bays[k]? = some b → BackOk p k b word) (g1 : gb ≤ 10000) (g2 : qb ≤ 1000000)
    (q : ∀ R h', Fm [] h h' → h.length ≤ R → Ls h' R ((p.told s word tags).map Row.d) → Q (.tup [(p.next s word tags).d, .loc R]) h') : wF F_law_moment [p.d, s.d, .str word, tagsD tags] h Q := by
  unfold F_law_moment
  refine wF_runK ?_
  unfold S_law_moment
  have n26 := hp.len
  simp only [↓wS_Seq, ↓wS_Set, ↓wE_Var]
  simp
  refine wLc_lists (enc := Bay.ds) (by simp) (by rw [hs.bl]; simp; omega) fun bl h1 f1 LB PB bB bnd => ?_
  have hB1 : h.length < h1.length := LB.lt
  obtain ⟨B, eB⟩ : ∃ B, B = h.length := ⟨_, rfl⟩
  rw [← eB] at LB bB ⊢
  refine wLc_lists (enc := fun q : List Part => q.map Part.d) (by simp) (by rw [hs.ql]; simp; omega) fun ql h2 f2 LC PC qB qnd => ?_
  have hC1 : h1.length < h2.length := LC.lt
  obtain ⟨C, eC⟩ : ∃ C, C = h1.length := ⟨_, rfl⟩
  rw [← eC] at LC qB ⊢
  replace LB := LB.keep0 f2; replace PB := PB.keep0 f2
  have LR0 := Ls.new h2 []
  have f3 : Fm [] h2 (h2 ++ [.lst []]) := (Fm.refl _ _).app _
  rw [show h2 ++ [AO.lst [], AO.lst []] = (h2 ++ [AO.lst []]) ++ [AO.lst []] by simp, show List.length h2 + 1 = (h2 ++ [AO.lst []]).length by simp]
  have hR1 := LR0.lt
  obtain ⟨R, eR⟩ : ∃ R, R = h2.length := ⟨_, rfl⟩
  rw [← eR] at LR0 hR1 qB ⊢
  generalize h2 ++ [AO.lst []] = h3 at *
  refine wLc_pureM (fun _ => true) (fun x : Stn => .str x.name) (by simp; omega) (fun _ _ => trivial) (fun x h1 hx f => by simp) (fun h4 f4 LN => ?_)
  have LN : Ls h4 h3.length (p.names.map D.str) := by
    rw [List.filter_eq_self.mpr (by simp)] at LN
    unfold Pl.names
    rw [List.map_map]
    exact LN
  have hN1 := LN.lt
  obtain ⟨N, eN⟩ : ∃ N, N = h3.length := ⟨_, rfl⟩
  rw [← eN] at LN hR1 hN1 ⊢
  have f5 : Fm [] h4 (h4 ++ [.lst (s.gate.map Part.d)]) := (Fm.refl _ _).app _
  have LI := Ls.new h4 (s.gate.map Part.d)
  obtain ⟨I, eI⟩ : ∃ I, I = h4.length := ⟨_, rfl⟩
  rw [← eI] at LI hN1
  simp only [← eI]
  generalize h4 ++ [AO.lst (s.gate.map Part.d)] = h5 at *
  have f35 := (f3.trans f4).trans f5
  replace LB := LB.keep0 f35; replace PB := PB.keep0 f35
  replace LC := LC.keep0 f35; replace PC := PC.keep0 f35
  replace LR0 := (LR0.keep0 f4).keep0 f5
  replace LN := LN.keep0 f5
  have Z : Lay B C R bl ql := by
    exact {
      bnd := bnd
      qnd := qnd
      dis := fun l hl hl' => by have := bB l hl; have := qB l hl'; omega
      br := fun z => by have := bB _ z; omega
      qr := fun z => by have := qB _ z; omega
      Bb := fun z => by have := bB _ z; omega
      Bq := fun z => by have := qB _ z; omega
      BR := by omega
      Cb := fun z => by have := bB _ z; omega
      Cq := fun z => by have := qB _ z; omega
      CR := by omega }
  have Nn : N ∉ allP B C R bl ql := by
    simp
    exact ⟨by omega, by omega, by omega, fun z => by have := bB _ z; omega, fun z => by have := qB _ z; omega⟩
  have In : I ∉ allP B C R bl ql := by
    simp
    exact ⟨by omega, by omega, by omega, fun z => by have := bB _ z; omega, fun z => by have := qB _ z; omega⟩
  have NI : N ≠ I := by omega
  have H : MoH h5 B C R bl ql ⟨s.bays, s.queues, []⟩ := ⟨LB, LC, PB, PC, LR0⟩
  have G : Fm [] h h5 := (f1.trans f2).trans f35
  have so := struck_ok (word := word) hs
  have GW : ∀ l ∈ I :: R :: (bl ++ ql), l ∈ ([] : List Nat) ∨ h.length ≤ l := by
    intro l hl
    right
    simp at hl
    rcases hl with rfl | rfl | hl | hl
    · omega
    · omega
    · have := bB _ hl; omega
    · have := qB _ hl; omega
  rw [in_strs (xs := p.names) (show seqAt h5 (.loc N) = _ from LN.i) (fun b => by simp)]
  by_cases hw : word ∈ p.names
  · have hi := idx_lt hw
    have hrow := Pl.row_at hi
    have ix : ∀ h', Ls h' N (p.names.map D.str) → indexM (.loc N) [.str word] h' = some (.int (p.names.idxOf word), h') := fun h' L => index_strs L.i hw
    obtain ⟨b, hb⟩ : ∃ b, s.bays[p.names.idxOf word]? = some b := ⟨_, List.getElem?_eq_getElem (by rw [hs.bl]; exact hi)⟩
    obtain ⟨l, hl, Lb⟩ := PB.get hb
    have hlm := List.mem_of_getElem? hl
    have lR : l ≠ R := fun e => Z.br (e ▸ hlm)
    have lN : l ≠ N := fun e => Nn (by simp [← e, hlm])
    have lI : l ≠ I := fun e => In (by simp [← e, hlm])
    replace Lb : Ls h5 l [.int b.broken, .int b.busy, .int b.used, .str b.kind, holdD b.hold] := Lb
    have ix2 := ix (h5.set l (.lst [.int (p.row (p.names.idxOf word)).repair, .int b.busy, .int b.used, .str b.kind, holdD b.hold])) (LN.oth lN)
    have em : p.struck word ⟨s.bays, s.queues, []⟩ = { bays := s.bays.set (p.names.idxOf word) { b with broken := (p.row (p.names.idxOf word)).repair }, queues := s.queues, rows := [⟨"struck", none, some (p.names.idxOf word), (p.row (p.names.idxOf word)).repair⟩] } := by
      unfold Pl.struck
      rw [if_pos hw]
      simp only [modify_at hb]
      rfl
    rw [em] at so
    simp [hw, isLst_of LN, isLst_of LR0, isLst_of (LN.oth lN), ix h5 LN, hrow, LB.i, hl, Lb.l, Lb.lt, ixN, ix2, LR0.l, LR0.lt, LN.lt, lR]
    have F1 : Fm [l, R] h5 ((h5.set l (.lst [.int (p.row (p.names.idxOf word)).repair, .int b.busy, .int b.used, .str b.kind, holdD b.hold])).set R (.lst [.tup [.str (Str.ofString "struck"), .non, .int (p.names.idxOf word), .int (p.row (p.names.idxOf word)).repair]])) := ((Fm.refl _ _).set _ (.inl (by simp))).set _ (.inl (by simp))
    have H1 := H.bayR Z hl F1 (b := { b with broken := (p.row (p.names.idxOf word)).repair }) (rows := [⟨"struck", none, some (p.names.idxOf word), (p.row (p.names.idxOf word)).repair⟩])
      (by unfold Ls; simp [List.getElem?_set, Ne.symm lR, Lb.lt, Bay.ds]) (by unfold Ls; simp [List.getElem?_set, LR0.lt, Row.d])
    have LN1 := LN.keep F1 (by simp; exact ⟨Ne.symm lN, by omega⟩)
    have LI1 := LI.keep F1 (by simp; exact ⟨Ne.symm lI, by omega⟩)
    have G1 : Fm [] h _ := G.then F1 (by
      intro y hy
      simp at hy
      rcases hy with rfl | rfl
      · exact GW _ (by simp [hlm])
      · exact GW _ (by simp))
    simpa using moment_rest (Q := Q) hp hs.gate hs.glen hs.slen ht em.symm hbk g1 g2 Z so H1 LN1 Nn LI1 In NI fun h' F' L' => q R h' (G1.then F' GW) (by omega) L'
  · have em : p.struck word ⟨s.bays, s.queues, []⟩ = ⟨s.bays, s.queues, []⟩ := by unfold Pl.struck; rw [if_neg hw]
    rw [em] at so
    simp [hw]
    simpa using moment_rest (Q := Q) hp hs.gate hs.glen hs.slen ht em.symm hbk g1 g2 Z so H LN Nn LI In NI fun h' F' L' => q R h' (G.then F' GW) (by omega) L'
end
end MP

/-! text SP10 -/
set_option Elab.async false
set_option linter.all false
set_option maxRecDepth 100000
set_option maxHeartbeats 4000000
namespace MP
open PySem PySem.Spec PyProof.Rows
open L2 hiding St
/-! ### the line's states -/
def bay0 : Bay := ⟨0, 0, 0, ⟨#[]⟩, none⟩
def Pl.start (p : Pl) : Sta := ⟨0, [], p.rows.map fun _ => bay0, p.rows.map fun _ => [], []⟩
section
variable {p : Pl}
theorem start_sta : StaOk p p.start 0 0 where
  bl := by simp [Pl.start]
  ql := by simp [Pl.start]
  hold := fun b hb => by
    obtain ⟨_, _, rfl⟩ := List.mem_map.mp hb
    exact ⟨trivial, by simp [PyData.strOk, bay0]⟩
  part := fun q hq => by
    obtain ⟨_, _, rfl⟩ := List.mem_map.mp hq
    exact ⟨by simp, by simp⟩
  gate := by simp [Pl.start]
  glen := by simp [Pl.start]
  slen := by simp [Pl.start]
theorem mo0_ok (hp : PlOk p) {s : Sta} {word : Str} {tags : List Int} {gb qb : Nat} (hs : StaOk p s gb qb) : MoOk p (p.mo0 s word tags) qb 101 := by
  have := (struck_ok (word := word) hs).rowsA (rows := (p.fresh s.phase tags).map came) (n := 100) (by have := coming_len p s.phase; have := hp.olen; simp [fresh_len]; omega)
  exact this.mono (Nat.le_refl _) (by omega)
theorem inside_ok' (hp : PlOk p) {s : Sta} {tags : List Int} {gb qb : Nat} (hs : StaOk p s gb qb) : ∀ x ∈ s.gate ++ p.fresh s.phase tags, PartOk p x := fun x hx => by
  rcases List.mem_append.mp hx with hx | hx
  · exact hs.gate x hx
  · exact fresh_ok hp x hx
theorem inside_len (hp : PlOk p) {s : Sta} {tags : List Int} {gb qb : Nat} (hs : StaOk p s gb qb) : (s.gate ++ p.fresh s.phase tags).length ≤ gb + 100 := by
  have := coming_len p s.phase; have := hp.olen; have := hs.glen
  rw [List.length_append, fresh_len]; omega
theorem mo1_ok (hp : PlOk p) {s : Sta} {word : Str} {tags : List Int} {gb qb : Nat} (hs : StaOk p s gb qb) : MoOk p (p.mo1 s word tags).1 (qb + gb + 100) (gb + 201) ∧ (p.mo1 s word tags).2.length ≤ gb + 100 ∧ ∀ x ∈ (p.mo1 s word tags).2, PartOk p x := by
  obtain ⟨a, b, c⟩ := enter_ok (p := p) (m := p.mo0 s word tags) (qb := 0) (rb := 0) (s.gate ++ p.fresh s.phase tags) (p.mo0 s word tags) [] qb 101 (mo0_ok hp hs) (inside_ok' hp hs)
  have il := inside_len hp hs (tags := tags)
  exact ⟨a.mono (by omega) (by omega), by simp only [List.length_nil] at b; exact Nat.le_trans b (by omega), c (by simp)⟩
theorem mo2_ok (hp : PlOk p) {s : Sta} {word : Str} {tags : List Int} {gb qb : Nat} (hs : StaOk p s gb qb) : MoOk p (p.mo2 s word tags) (qb + gb + 100) (gb + 301) :=
  (begins_ok hp (mo1_ok hp hs).1 p.rows.length).mono (Nat.le_refl _) (by have := hp.len; omega)
theorem mo3_ok (hp : PlOk p) {s : Sta} {word : Str} {tags : List Int} {gb qb : Nat} (hs : StaOk p s gb qb) : MoOk p (p.mo3 s word tags) (qb + gb + 100) (gb + 401) :=
  (works_ok hp (mo2_ok hp hs) p.rows.length).mono (Nat.le_refl _) (by have := hp.len; omega)
theorem mo4_ok (hp : PlOk p) {s : Sta} {word : Str} {tags : List Int} {gb qb : Nat} (hs : StaOk p s gb qb) : MoOk p (p.mo4 s word tags) (qb + gb + 200) (gb + 501) :=
  (outs_ok (mo3_ok hp hs) p.rows.length).mono (by have := hp.len; omega) (by have := hp.len; omega)
theorem older_part {x : Part} (h : PartOk p x) : PartOk p x.older := ⟨h.ord, h.step⟩
theorem older_hold {o : Option (Part × Int)} (h : HoldOk p o) : HoldOk p (o.map fun q => (q.1.older, q.2)) := by
  cases o with
  | none => trivial
  | some q => exact h
theorem nextS_ok (hp : PlOk p) {s : Sta} {word : Str} {tags : List Int} {gb qb : Nat} (hs : StaOk p s gb qb) : StaOk p (p.next s word tags) (gb + 100) (qb + gb + 200) := by
  have o := mo4_ok (word := word) (tags := tags) hp hs
  have g := mo1_ok (word := word) (tags := tags) hp hs
  exact {
    bl := by simp [Pl.next, Pl.closed, o.bl]
    ql := by simp [Pl.next, Pl.closed, o.ql]
    hold := fun b hb => by
      obtain ⟨b', hb', rfl⟩ := List.mem_map.mp hb
      exact ⟨older_hold (o.hold b' hb').1, (o.hold b' hb').2⟩
    part := fun q hq => by
      obtain ⟨q', hq', rfl⟩ := List.mem_map.mp hq
      refine ⟨fun x hx => ?_, by simp; exact (o.part q' hq').2⟩
      obtain ⟨x', hx', rfl⟩ := List.mem_map.mp hx
      exact older_part ((o.part q' hq').1 x' hx')
    gate := fun x hx => by
      obtain ⟨x', hx', rfl⟩ := List.mem_map.mp hx
      exact older_part (g.2.2 x' hx')
    glen := by simp [Pl.next, Pl.closed]; exact g.2.1
    slen := by
      refine Nat.le_trans (List.length_filter_le _ _) ?_
      have := hs.slen
      simp
      split <;> simp <;> omega }
/-! ### rows that tell of a finished step -/
def FinOk (p : Pl) (r : Row) : Prop := r.word = (Str.ofString "finished") → ∃ x, r.part = some x ∧ PartOk p x ∧ r.num = x.step
theorem fin_other {w : Str} {a : Option Part} {b : Option Nat} {c : Int} (h : w ≠ (Str.ofString "finished")) : FinOk p ⟨w, a, b, c⟩ := fun e => absurd e h
theorem push_fin {m : Mo} {k : Nat} {x : Part} (h : ∀ r ∈ m.rows, FinOk p r) : ∀ r ∈ (m.push k x).rows, FinOk p r := fun r hr => by
  rcases List.mem_append.mp hr with hr | hr
  · exact h r hr
  · rw [List.mem_singleton.mp hr]; exact fin_other (by decide +kernel)
theorem begin_fin {k : Nat} {b : Bay} {x : Part} : ∀ r ∈ (p.begin k b x).2, FinOk p r := fun r hr => by
  unfold Pl.begin at hr
  dsimp only at hr
  split at hr
  · simp at hr
    rcases hr with rfl | rfl <;> exact fin_other (by decide +kernel)
  · simp at hr
    rw [hr]; exact fin_other (by decide +kernel)
theorem work_fin {k : Nat} {b : Bay} {word : Str} (hb : HoldOk p b.hold) : ∀ r ∈ (p.work k b word).2, FinOk p r := fun r hr => by
  unfold Pl.work at hr
  split at hr
  · simp at hr
  split at hr
  · simp at hr
  split at hr
  · simp at hr
  · rename_i x left e
    rw [e] at hb
    split at hr
    · rename_i hl
      dsimp only at hr
      split at hr
      · split at hr
        · simp at hr; rw [hr]; exact fin_other (by decide +kernel)
        · simp at hr; rw [hr]; exact fun _ => ⟨x, rfl, ⟨hb.1, hb.2.2.1 hl⟩, rfl⟩
      · simp at hr
    · simp at hr
theorem told_fin (hp : PlOk p) {s : Sta} {word : Str} {tags : List Int} {gb qb : Nat} (hs : StaOk p s gb qb) : ∀ r ∈ p.told s word tags, FinOk p r := by
  have h0 : ∀ r ∈ (p.mo0 s word tags).rows, FinOk p r := by
    intro r hr
    rcases List.mem_append.mp hr with hr | hr
    · unfold Pl.struck at hr
      split at hr
      · simp at hr; rw [hr]; exact fin_other (by decide +kernel)
      · simp at hr
    · obtain ⟨x, _, rfl⟩ := List.mem_map.mp hr
      exact fin_other (by decide +kernel)
  have h1 : ∀ (xs : List Part) (m : Mo) (st : List Part), (∀ r ∈ m.rows, FinOk p r) → ∀ r ∈ (xs.foldl p.enter1 (m, st)).1.rows, FinOk p r := by
    intro xs
    induction xs with
    | nil => exact fun m st h => h
    | cons x xs ih =>
      intro m st h
      refine ih (p.enter1 (m, st) x).1 (p.enter1 (m, st) x).2 ?_
      unfold Pl.enter1
      split
      · exact push_fin h
      · exact h
  have h2 : ∀ i, ∀ r ∈ ((List.range i).foldl p.begin1 (p.mo1 s word tags).1).rows, FinOk p r := by
    intro i
    induction i with
    | zero => exact h1 _ _ _ h0
    | succ i ih =>
      rw [range_fold]
      intro r hr
      unfold Pl.begin1 at hr
      split at hr
      · split at hr
        · rcases List.mem_append.mp hr with hr | hr
          · exact ih r hr
          · exact begin_fin r hr
        · exact ih r hr
      · exact ih r hr
  have h3 : ∀ i, ∀ r ∈ ((List.range i).foldl (p.work1 word) (p.mo2 s word tags)).rows, FinOk p r := by
    intro i
    induction i with
    | zero => exact h2 _
    | succ i ih =>
      rw [range_fold]
      have o := works_ok hp (word := word) (mo2_ok hp hs (word := word) (tags := tags)) i
      intro r hr
      unfold Pl.work1 at hr
      split at hr
      · rename_i b hb
        rcases List.mem_append.mp hr with hr | hr
        · exact ih r hr
        · exact work_fin (o.hold b (List.mem_of_getElem? hb)).1 r hr
      · exact ih r hr
  have h4 : ∀ i, ∀ r ∈ (p.outs i (p.mo3 s word tags)).rows, FinOk p r := by
    intro i
    induction i with
    | zero => exact h3 _
    | succ i ih =>
      unfold Pl.outs
      rw [range_fold]
      intro r hr
      unfold Pl.out1 at hr
      split at hr
      · split at hr
        · split at hr
          · rcases List.mem_append.mp hr with hr | hr
            · exact ih r hr
            · rw [List.mem_singleton.mp hr]; exact fin_other (by decide +kernel)
          · split at hr
            · exact push_fin ih r hr
            · exact ih r hr
        · exact ih r hr
      · exact ih r hr
  exact h4 _
/-! ### tags forgotten -/
def Part.er (x : Part) : Part := { x with tag := none }
def Bay.er (b : Bay) : Bay := { b with hold := b.hold.map fun q => (q.1.er, q.2) }
def Row.er (r : Row) : Row := { r with part := r.part.map Part.er }
def Mo.er (m : Mo) : Mo := ⟨m.bays.map Bay.er, m.queues.map fun q => q.map Part.er, m.rows.map Row.er⟩
def Sta.er (s : Sta) : Sta := ⟨s.phase, s.strikes, s.bays.map Bay.er, s.queues.map fun q => q.map Part.er, s.gate.map Part.er⟩
theorem map_modify {α β : Type} (g : α → β) (f : α → α) (f' : β → β) (h : ∀ x, g (f x) = f' (g x)) (xs : List α) (k : Nat) : (xs.modify k f).map g = (xs.map g).modify k f' := by
  refine List.ext_getElem? fun i => ?_
  rw [List.getElem?_map, List.getElem?_modify, List.getElem?_modify, List.getElem?_map]
  cases xs[i]? with
  | none => rfl
  | some x =>
    by_cases hk : k = i
    · simp [hk, h]
    · simp [hk]
theorem map_set' {α β : Type} (g : α → β) (xs : List α) (k : Nat) (y : α) : (xs.set k y).map g = (xs.map g).set k (g y) := by rw [List.map_set]
theorem qlen_er (m : Mo) (k : Nat) : m.er.qlen k = m.qlen k := by
  unfold Mo.qlen Mo.er
  simp
  cases m.queues[k]? <;> simp
theorem push_er (m : Mo) (k : Nat) (x : Part) : (m.push k x).er = m.er.push k x.er := by
  have e := qlen_er m k
  unfold Mo.push
  rw [e]
  unfold Mo.er
  simp only [Mo.mk.injEq]
  refine ⟨trivial, ?_, by simp [Row.er]⟩
  exact map_modify _ _ _ (fun q => by simp) _ _
theorem free_er (m : Mo) (k : Nat) : (m.free k).er = m.er.free k := by
  unfold Mo.free Mo.er
  simp only [Mo.mk.injEq]
  refine ⟨?_, trivial, trivial⟩
  exact map_modify Bay.er (fun b => { b with hold := none }) (fun b => { b with hold := none }) (fun b => rfl) _ _
theorem enter1_er (m : Mo) (st : List Part) (x : Part) : p.enter1 (m.er, st.map Part.er) x.er = ((p.enter1 (m, st) x).1.er, (p.enter1 (m, st) x).2.map Part.er) := by
  have e1 : p.goal x.er = p.goal x := rfl
  unfold Pl.enter1
  simp only [e1, qlen_er]
  split
  · rw [push_er]
  · simp
theorem begin_er (k : Nat) (b : Bay) (x : Part) : p.begin k b.er x.er = ((p.begin k b x).1.er, (p.begin k b x).2.map Row.er) := by
  have e1 : p.kindOf x.er = p.kindOf x := rfl
  have e2 : p.now x.er = p.now x := rfl
  have e3 : b.er.kind = b.kind := rfl
  have e4 : b.er.used = b.used := rfl
  unfold Pl.begin
  simp only [e1, e2, e3, e4]
  split <;> simp [Bay.er, Row.er]
theorem begin1_er (m : Mo) (k : Nat) : (p.begin1 m k).er = p.begin1 m.er k := by
  unfold Pl.begin1
  have e1 : m.er.bays[k]? = (m.bays[k]?).map Bay.er := by unfold Mo.er; simp
  have e2 : m.er.queues[k]? = (m.queues[k]?).map (fun q => q.map Part.er) := by unfold Mo.er; simp
  rw [e1, e2]
  cases m.bays[k]? with
  | none => rfl
  | some b =>
    cases m.queues[k]? with
    | none => rfl
    | some q =>
      cases q with
      | nil => rfl
      | cons x q =>
        simp only [Option.map_some, List.map_cons]
        have e3 : b.er.broken = b.broken := rfl
        have e4 : b.er.hold = none ↔ b.hold = none := by unfold Bay.er; simp
        simp only [e3, e4]
        split
        · rw [begin_er]
          unfold Mo.er
          simp [map_set']
        · rfl
theorem work_er (k : Nat) (b : Bay) (word : Str) : p.work k b.er word = ((p.work k b word).1.er, (p.work k b word).2.map Row.er) := by
  have e3 : b.er.broken = b.broken := rfl
  have e4 : b.er.busy = b.busy := rfl
  have e5 : b.er.hold = b.hold.map fun q => (q.1.er, q.2) := rfl
  unfold Pl.work
  simp only [e3, e4, e5]
  split
  · simp [Bay.er]
  split
  · simp [Bay.er]
  cases hh : b.hold with
  | none => simp
  | some q =>
    obtain ⟨x, left⟩ := q
    simp only [Option.map_some]
    split
    · split
      · have e6 : p.now x.er = p.now x := rfl
        simp only [e6]
        split <;> simp [Bay.er, Row.er, Part.er]
      · simp [Bay.er]
    · simp
theorem work1_er (word : Str) (m : Mo) (k : Nat) : (p.work1 word m k).er = p.work1 word m.er k := by
  unfold Pl.work1
  have e1 : m.er.bays[k]? = (m.bays[k]?).map Bay.er := by unfold Mo.er; simp
  rw [e1]
  cases m.bays[k]? with
  | none => rfl
  | some b =>
    simp only [Option.map_some, work_er]
    unfold Mo.er
    simp [map_set']
theorem out1_er (m : Mo) (k : Nat) : (p.out1 m k).er = p.out1 m.er k := by
  unfold Pl.out1
  have e1 : m.er.bays[k]? = (m.bays[k]?).map Bay.er := by unfold Mo.er; simp
  rw [e1]
  cases m.bays[k]? with
  | none => rfl
  | some b =>
    have e5 : b.er.hold = b.hold.map fun q => (q.1.er, q.2) := rfl
    simp only [Option.map_some, Option.bind_some, e5]
    cases b.hold with
    | none => rfl
    | some q =>
      obtain ⟨x, left⟩ := q
      simp only [Option.map_some, qlen_er]
      have e6 : p.way x.er = p.way x := rfl
      have e7 : p.goal x.er = p.goal x := rfl
      have e8 : x.er.step = x.step := rfl
      simp only [e6, e7, e8]
      split
      · split
        · rw [free_er]
          congr 1
          unfold Mo.er
          simp [Row.er, Part.er]
        · split
          · rw [free_er, push_er]
          · rfl
      · rfl
theorem struck_er (word : Str) (m : Mo) : (p.struck word m).er = p.struck word m.er := by
  unfold Pl.struck
  split
  · unfold Mo.er
    simp only [Mo.mk.injEq]
    refine ⟨?_, trivial, by simp [Row.er]⟩
    exact map_modify Bay.er (fun b => { b with broken := (p.row (p.names.idxOf word)).repair }) (fun b => { b with broken := (p.row (p.names.idxOf word)).repair }) (fun b => rfl) _ _
  · rfl
theorem fresh_er (phase : Int) (tags : List Int) : (p.fresh phase tags).map Part.er = p.fresh phase [] := by
  unfold Pl.fresh
  refine List.ext_getElem? fun i => ?_
  rw [List.getElem?_map, List.getElem?_mapIdx, List.getElem?_mapIdx]
  cases (p.coming phase)[i]? <;> rfl
theorem mo0_er (s : Sta) (word : Str) (tags : List Int) : (p.mo0 s word tags).er = p.mo0 s.er word [] := by
  have e := struck_er (p := p) word ⟨s.bays, s.queues, []⟩
  have e' : ({ bays := s.bays, queues := s.queues, rows := [] } : Mo).er = ⟨s.er.bays, s.er.queues, []⟩ := rfl
  rw [e'] at e
  have f := fresh_er (p := p) s.phase tags
  unfold Pl.mo0
  show Mo.er _ = { (p.struck word ⟨s.er.bays, s.er.queues, []⟩) with rows := (p.struck word ⟨s.er.bays, s.er.queues, []⟩).rows ++ (p.fresh s.phase []).map came }
  rw [← e, ← f]
  unfold Mo.er
  simp [came, Row.er, Function.comp_def, Part.er]
theorem mo1_er (s : Sta) (word : Str) (tags : List Int) : p.mo1 s.er word [] = ((p.mo1 s word tags).1.er, (p.mo1 s word tags).2.map Part.er) := by
  unfold Pl.mo1
  rw [← mo0_er (tags := tags)]
  have : s.er.gate ++ p.fresh s.er.phase [] = (s.gate ++ p.fresh s.phase tags).map Part.er := by
    rw [List.map_append, fresh_er]; rfl
  rw [this]
  have key : ∀ (xs : List Part) (m : Mo) (st : List Part), (xs.map Part.er).foldl p.enter1 (m.er, st.map Part.er) = ((xs.foldl p.enter1 (m, st)).1.er, (xs.foldl p.enter1 (m, st)).2.map Part.er) := by
    intro xs
    induction xs with
    | nil => exact fun m st => rfl
    | cons x xs ih =>
      intro m st
      rw [List.map_cons, List.foldl_cons, List.foldl_cons, enter1_er]
      exact ih _ _
  exact key _ _ []
theorem mo2_er (s : Sta) (word : Str) (tags : List Int) : (p.mo2 s word tags).er = p.mo2 s.er word [] := by
  unfold Pl.mo2
  have key : ∀ i (m : Mo), ((List.range i).foldl p.begin1 m).er = (List.range i).foldl p.begin1 m.er := by
    intro i m
    induction i with
    | zero => rfl
    | succ i ih => rw [range_fold, range_fold, begin1_er, ih]
  rw [key, mo1_er s word tags]
theorem mo3_er (s : Sta) (word : Str) (tags : List Int) : (p.mo3 s word tags).er = p.mo3 s.er word [] := by
  unfold Pl.mo3
  have key : ∀ i (m : Mo), ((List.range i).foldl (p.work1 word) m).er = (List.range i).foldl (p.work1 word) m.er := by
    intro i m
    induction i with
    | zero => rfl
    | succ i ih => rw [range_fold, range_fold, work1_er, ih]
  rw [key, mo2_er]
theorem outs_er (i : Nat) (m : Mo) : (p.outs i m).er = p.outs i m.er := by
  unfold Pl.outs
  induction i with
  | zero => rfl
  | succ i ih => rw [range_fold, range_fold, out1_er, ih]
theorem mo4_er (s : Sta) (word : Str) (tags : List Int) : (p.mo4 s word tags).er = p.mo4 s.er word [] := by
  unfold Pl.mo4
  rw [outs_er, mo3_er]
theorem told_er (s : Sta) (word : Str) (tags : List Int) : (p.told s word tags).map Row.er = p.told s.er word [] := by
  unfold Pl.told
  rw [← mo4_er (tags := tags)]
  rfl
theorem next_er (s : Sta) (word : Str) (tags : List Int) : (p.next s word tags).er = p.next s.er word [] := by
  unfold Pl.next
  rw [← mo4_er (tags := tags), mo1_er s word tags]
  unfold Sta.er Pl.closed Mo.er
  simp [Function.comp_def, Bay.older, Bay.er, Part.older, Part.er]
end
end MP

/-! text SP11 -/
set_option Elab.async false
set_option linter.all false
set_option maxRecDepth 100000
set_option maxHeartbeats 4000000
namespace MP
open PySem PySem.Spec PyProof.Rows
open L2 hiding St
/-! ### the strikes that are open -/
def bang (nm : Str) : Str := nm ++ (Str.ofString "!")
def Pl.spoils (p : Pl) (k : Nat) (r : Row) : Bool := decide (r.word = (Str.ofString "finished")) && (decide (r.at_ = some k) && match r.part with
  | some x => decide (x.again < p.most) && ((p.way x)[r.num.toNat]?.bind Stp1.back).isSome
  | none => false)
def Pl.openAt (p : Pl) (s : Sta) (rows : List Row) (k : Nat) : List Str :=
  (if ((s.bays[k]?).map Bay.broken).getD 1 = 0 then [(p.row k).name] else []) ++ (rows.filter (p.spoils k)).map fun _ => bang (p.row k).name
def Pl.open (p : Pl) (s : Sta) : List Str := if p.often ≤ s.strikes.length then [(Str.ofString "-")] else (Str.ofString "-") :: (List.range p.rows.length).flatMap (p.openAt s (p.told s (Str.ofString "-") []))
section
variable {p : Pl} {h : Hs} {Q : QE}
theorem start_ok (hp : PlOk p) (q : ∀ h', Fm [] h h' → Q p.start.d h') : wF F_law_start [p.d] h Q := by
  have hl := hp.len
  unfold F_law_start
  refine wF_runK ?_
  unfold S_law_start
  simp
  refine wLc_mapM (fun _ : Stn => bayD bay0) (by simp; omega) (fun _ _ => trivial) (fun x h1 hx f => by simp [bayD, bay0, Bay.ds]; rfl) (fun h1 f1 L1 => ?_)
  simp [L1.i]
  refine wLc_mapM (fun _ : Stn => .tup []) (by simp; omega) (fun _ _ => trivial) (fun x h1 hx f => by simp) (fun h2 f2 L2 => ?_)
  simp [L2.i]
  have e : D.tup [.int 0, .tup [], .tup (p.rows.map fun _ => bayD bay0), .tup (p.rows.map fun _ => .tup []), .tup []] = p.start.d := by
    simp [Pl.start, Sta.d, Function.comp_def, queueD]
  rw [e]
  exact q h2 (f1.trans f2)
theorem row_d_num {r : Row} {x : Part} (hx : PartOk p x) (e : r.num = x.step) : (p.way x)[r.num.toNat]? = some (p.now x) := by
  rw [e, Int.toNat_natCast]
  exact Pl.way_at hx.step
/-- one row's look -/
theorem open_row {k f R : Nat} {s : Sta} {r : Row} {found : List Str} {Q : QS} (hp : PlOk p) (hk : k < p.rows.length) (hr : FinOk p r) (L : Ls h f (found.map D.str)) (hl : found.length ≤ 10000000)
    (q : ∀ h', Fm [f] h h' → Ls h' f ((found ++ if p.spoils k r then [bang (p.row k).name] else []).map D.str) → Q .nx [some p.d, some s.d, some (.loc f), some (.loc R), some (.int k), some r.d] h') :
    wS (sSeq (sIf (bAnd (bBool (mOp2 eqO (mOp2 ixO (mVar 5) (mC (.int 0))) (mC (.str "finished")))) (bAnd (bBool (mOp2 eqO (mOp2 ixO (mVar 5) (mC (.int 2))) (mVar 4))) (bAnd (bBool (mOp2 ltO (mOp2 ixO (mOp2 ixO (mVar 5) (mC (.int 1))) (mC (.int 3))) (mOp2 ixO (mVar 0) (mC (.int 6))))) (bBool (mOp2 isNotO (mOp2 ixO (mOp2 ixO (mCallF 2 F_law_way (aCons (mVar 0) (aCons (mOp2 ixO (mVar 5) (mC (.int 1))) aNil))) (mOp2 ixO (mVar 5) (mC (.int 3)))) (mC (.int 2))) (mC .non)))))) (sSeq (sExpr (mMeth isLst appendM (mVar 2) (aCons (mOp2 addD (mOp2 ixO (mOp2 ixO (mOp2 ixO (mVar 0) (mC (.int 0))) (mVar 4)) (mC (.int 0))) (mC (.str "!"))) aNil))) sNext) sNext) sNext) [some p.d, some s.d, some (.loc f), some (.loc R), some (.int k), some r.d] h Q := by
  have hrow := Pl.row_at hk
  have nm := (hp.row _ (List.mem_of_getElem? hrow)).2
  have e0 : ∀ b : Bool, p.spoils k r = b → wS (sSeq (sIf (bAnd (bBool (mOp2 eqO (mOp2 ixO (mVar 5) (mC (.int 0))) (mC (.str "finished")))) (bAnd (bBool (mOp2 eqO (mOp2 ixO (mVar 5) (mC (.int 2))) (mVar 4))) (bAnd (bBool (mOp2 ltO (mOp2 ixO (mOp2 ixO (mVar 5) (mC (.int 1))) (mC (.int 3))) (mOp2 ixO (mVar 0) (mC (.int 6))))) (bBool (mOp2 isNotO (mOp2 ixO (mOp2 ixO (mCallF 2 F_law_way (aCons (mVar 0) (aCons (mOp2 ixO (mVar 5) (mC (.int 1))) aNil))) (mOp2 ixO (mVar 5) (mC (.int 3)))) (mC (.int 2))) (mC .non)))))) (sSeq (sExpr (mMeth isLst appendM (mVar 2) (aCons (mOp2 addD (mOp2 ixO (mOp2 ixO (mOp2 ixO (mVar 0) (mC (.int 0))) (mVar 4)) (mC (.int 0))) (mC (.str "!"))) aNil))) sNext) sNext) sNext) [some p.d, some s.d, some (.loc f), some (.loc R), some (.int k), some r.d] h Q := by
    intro b hb
    rw [hb] at q
    have qno : b = false → Q .nx [some p.d, some s.d, some (.loc f), some (.loc R), some (.int k), some r.d] h := fun e => by subst e; exact q h (Fm.refl _ _) (by simpa using L)
    simp
    by_cases c1 : r.word = (Str.ofString "finished")
    · obtain ⟨x, ex, hx, en⟩ := hr c1
      simp [c1, ex]
      cases ea : r.at_ with
      | none =>
        simp
        refine qno ?_
        rw [← hb]; unfold Pl.spoils; simp [ea]
      | some j =>
        simp
        by_cases c2 : j = k
        · subst c2
          simp
          by_cases c3 : x.again < p.most
          · simp [c3]
            refine way_ok hp hx.ord fun h1 f1 => ?_
            have eb : p.spoils j r = (p.now x).back.isSome := by
              unfold Pl.spoils
              simp [c1, ea, ex, c3, row_d_num hx en]
            have es : ∀ h, ixO (.tup ((p.way x).map Stp1.d)) (.int r.num) h = some ((p.now x).d, h) := fun h => by
              rw [en, ix_tup, atI_cast, List.getElem?_map, Pl.way_at hx.step]; rfl
            simp only [es, wO_some]
            simp
            rw [hb] at eb
            cases c4 : (p.now x).back with
            | none =>
              rw [c4] at eb
              simp
              have := qno eb
              subst eb
              exact q h1 f1.of0 (by simpa using L.keep0 f1)
            | some bk =>
              rw [c4] at eb
              subst eb
              have n1 : (p.row j).name.length ≤ 16777215 := by have := nm.top; omega
              have n2 : (Str.ofString "!").length = 1 := rfl
              have L1 := L.keep0 f1
              have n3 : found.length < 16777216 := by omega
              simp [hrow, n1, n2, L1.l, isLst_of L1, L1.lt, n3]
              have Ff : ∀ o, Fm [f] h (h1.set f o) := fun o => (f1.of0 : Fm [f] h h1).set o (.inl (by simp))
              exact q _ (Ff _) (by simpa [bang] using L1.set (found.map D.str ++ [.str ((p.row j).name ++ Str.ofString "!")]))
          · simp [c3]
            refine qno ?_
            rw [← hb]; unfold Pl.spoils; simp [ex, c3]
        · have c2' : ¬ ((j : Int) = (k : Int)) := by omega
          simp [c2']
          refine qno ?_
          rw [← hb]; unfold Pl.spoils; simp [ea, c2]
    · simp [c1]
      refine qno ?_
      rw [← hb]; unfold Pl.spoils; simp [c1]
  exact e0 _ rfl
theorem open_ok {s : Sta} {gb qb : Nat} {Q : QE} (hp : PlOk p) (hs : StaOk p s gb qb) (g1 : gb ≤ 10000) (g2 : qb ≤ 1000000) (hbk : ∀ k b, (p.mo2 s (Str.ofString "-") []).bays[k]? = some b → BackOk p k b (Str.ofString "-"))
    (q : ∀ f h', Fm [] h h' → h.length ≤ f → Ls h' f ((p.open s).map D.str) → (p.open s).length ≤ 1000000 → Q (.loc f) h') : wF F_law_open [p.d, s.d] h Q := by
  have n26 := hp.len
  unfold F_law_open
  refine wF_runK ?_
  unfold S_law_open
  simp
  have f0 : Fm [] h (h ++ [.lst [.str (Str.ofString "-")]]) := (Fm.refl _ _).app _
  have L0 := Ls.new h [.str (Str.ofString "-")]
  obtain ⟨f, ef⟩ : ∃ f, f = h.length := ⟨_, rfl⟩
  rw [← ef] at L0 ⊢
  have hf : f < (h ++ [AO.lst [.str (Str.ofString "-")]]).length := L0.lt
  have fz : h.length ≤ f := by omega
  generalize h ++ [AO.lst [.str (Str.ofString "-")]] = h0 at *
  by_cases c : p.often ≤ (s.strikes.length : Int)
  · simp [c]
    refine q f h0 f0 fz ?_ ?_
    · unfold Pl.open
      rw [if_pos c]
      exact L0
    · unfold Pl.open
      rw [if_pos c]
      simp
  · simp [c]
    refine moment_ok (tags := []) hp hs (.inl rfl) hbk g1 g2 fun R h1 f1 hR LR => ?_
    simp
    refine ⟨by omega, ?_⟩
    unfold rangeD
    simp
    have L1 := L0.keep0 f1
    have told := told_fin hp hs (word := (Str.ofString "-")) (tags := [])
    have rl := (mo4_ok hp hs (word := (Str.ofString "-")) (tags := [])).rows
    have rl : (p.told s (Str.ofString "-") []).length ≤ gb + 501 := rl
    generalize hrows : p.told s (Str.ofString "-") [] = rows at *
    have RF : R ≠ f := by
      intro e; subst e
      have := Ls.i L1
      have h2 := LR.i
      rw [this] at h2
      cases rows with
      | nil => cases h2
      | cons r rs => simp [Row.d] at h2
    obtain ⟨J, hJ⟩ : ∃ J : Nat → Rho → Hs → Prop, ∀ i ρ hx, J i ρ hx ↔ ∃ o4 o5, ρ = [some p.d, some s.d, some (.loc f), some (.loc R), o4, o5] ∧ Fm [] h hx ∧ Ls hx R (rows.map Row.d) ∧
        Ls hx f (((Str.ofString "-") :: (List.range i).flatMap (p.openAt s rows)).map D.str) ∧ ((Str.ofString "-") :: (List.range i).flatMap (p.openAt s rows)).length ≤ i * 20000 + 1 := ⟨_, fun _ _ _ => Iff.rfl⟩
    refine wFor_inv J ((hJ _ _ _).mpr ⟨none, none, rfl, f0.trans f1, LR, by simpa using L1, by simp⟩) (fun k x ρ hx hi Ji => ?_) (fun ρ hx Ji => ?_)
    · obtain ⟨o4, o5, e, F, Lr, Lf, hl⟩ := (hJ _ _ _).mp Ji
      subst e
      obtain ⟨hk, rfl⟩ := range_at hi
      have hrow := Pl.row_at hk
      obtain ⟨b, hb⟩ : ∃ b, s.bays[k]? = some b := ⟨_, List.getElem?_eq_getElem (by rw [hs.bl]; exact hk)⟩
      have ek : (List.range (k + 1)).flatMap (p.openAt s rows) = (List.range k).flatMap (p.openAt s rows) ++ p.openAt s rows k := by rw [List.range_succ, List.flatMap_append]; simp
      -- the rows, after the first look
      have look : ∀ (hy : Hs) (found : List Str) (o5 : Option D), Fm [] h hy → Ls hy R (rows.map Row.d) → Ls hy f (found.map D.str) → found.length ≤ k * 20000 + 2 →
          (found ++ (rows.filter (p.spoils k)).map fun _ => bang (p.row k).name) = (Str.ofString "-") :: ((List.range k).flatMap (p.openAt s rows) ++ p.openAt s rows k) →
          wFor (some (R, rows.map Row.d)) (gVar 5) (sSeq (sIf (bAnd (bBool (mOp2 eqO (mOp2 ixO (mVar 5) (mC (.int 0))) (mC (.str "finished")))) (bAnd (bBool (mOp2 eqO (mOp2 ixO (mVar 5) (mC (.int 2))) (mVar 4))) (bAnd (bBool (mOp2 ltO (mOp2 ixO (mOp2 ixO (mVar 5) (mC (.int 1))) (mC (.int 3))) (mOp2 ixO (mVar 0) (mC (.int 6))))) (bBool (mOp2 isNotO (mOp2 ixO (mOp2 ixO (mCallF 2 F_law_way (aCons (mVar 0) (aCons (mOp2 ixO (mVar 5) (mC (.int 1))) aNil))) (mOp2 ixO (mVar 5) (mC (.int 3)))) (mC (.int 2))) (mC .non)))))) (sSeq (sExpr (mMeth isLst appendM (mVar 2) (aCons (mOp2 addD (mOp2 ixO (mOp2 ixO (mOp2 ixO (mVar 0) (mC (.int 0))) (mVar 4)) (mC (.int 0))) (mC (.str "!"))) aNil))) sNext) sNext) sNext) (rows.map Row.d) [some p.d, some s.d, some (.loc f), some (.loc R), some (.int k), o5] hy (seqK sNext (loopK (J (k + 1)) (seqK (sSeq (sRet (mVar 2)) sNext) (retK Q)))) := by
        intro hy found o5 Fy Ly Lfy hly efy
        obtain ⟨J2, hJ2⟩ : ∃ J : Nat → Rho → Hs → Prop, ∀ i ρ hx, J i ρ hx ↔ ∃ o5, ρ = [some p.d, some s.d, some (.loc f), some (.loc R), some (.int k), o5] ∧ Fm [] h hx ∧ Ls hx R (rows.map Row.d) ∧
            Ls hx f ((found ++ ((rows.take i).filter (p.spoils k)).map fun _ => bang (p.row k).name).map D.str) := ⟨_, fun _ _ _ => Iff.rfl⟩
        refine wFor_inv J2 ((hJ2 _ _ _).mpr ⟨o5, rfl, Fy, Ly, by simpa using Lfy⟩) (fun j x ρ hz hj Jj => ?_) (fun ρ hz Jj => ?_)
        · obtain ⟨o5, e, Fz, Lz, Lfz⟩ := (hJ2 _ _ _).mp Jj
          subst e
          rw [List.getElem?_map] at hj
          cases er : rows[j]? with
          | none => rw [er] at hj; cases hj
          | some r =>
          rw [er] at hj
          cases hj
          have jl := (List.getElem?_eq_some_iff.mp er).1
          have et : rows.take (j + 1) = rows.take j ++ [r] := by rw [List.take_add_one, er]; rfl
          rw [wG_Var]
          refine ⟨Lz.i, ?_⟩
          have fl : (((rows.take j).filter (p.spoils k)).map fun _ => bang (p.row k).name).length ≤ gb + 501 := by
            rw [List.length_map]
            exact Nat.le_trans (List.length_filter_le _ _) (by simp; omega)
          refine open_row hp hk (told r (List.mem_of_getElem? er)) Lfz (by rw [List.length_append]; omega) fun h' F' L' => ?_
          refine (hJ2 _ _ _).mpr ⟨_, rfl, Fz.then1 F' (.inr fz), Lz.keep F' (by simpa using RF), ?_⟩
          have e3 : found ++ ((rows.take (j + 1)).filter (p.spoils k)).map (fun _ => bang (p.row k).name) = (found ++ ((rows.take j).filter (p.spoils k)).map fun _ => bang (p.row k).name) ++ if p.spoils k r then [bang (p.row k).name] else [] := by
            rw [et, List.filter_append]
            cases cs : p.spoils k r <;> simp [cs]
          rw [e3]
          exact L'
        · obtain ⟨o5, e, Fz, Lz, Lfz⟩ := (hJ2 _ _ _).mp Jj
          subst e
          rw [List.length_map, List.take_length] at Lfz
          refine ⟨Lz.i, ?_⟩
          simp
          refine (hJ _ _ _).mpr ⟨_, _, rfl, Fz, Lz, ?_, ?_⟩
          · rw [ek, ← efy]; exact Lfz
          · rw [ek, ← efy, List.length_append, List.length_map]
            have := List.length_filter_le (p.spoils k) rows
            omega
      by_cases c2 : b.broken = 0
      · have n1 : ((List.range k).flatMap (p.openAt s rows)).length + 1 ≤ k * 20000 + 1 := hl
        have n2 : ((List.range k).flatMap (p.openAt s rows)).length + 1 < 16777216 := by omega
        have Lfi : isLst hx (.loc f) = true := isLst_of Lf
        have Lfl : lstAt hx f = some (.str (Str.ofString "-") :: ((List.range k).flatMap (p.openAt s rows)).map D.str) := Lf.l
        generalize ((List.range k).flatMap (p.openAt s rows)) = pre at *
        simp [hb, c2, Lfi, hrow, Lfl, n2]
        refine ⟨_, (Lr.oth (Ne.symm RF)).i, ?_⟩
        have Ff : ∀ o, Fm [] h (hx.set f o) := fun o => F.set o (.inr fz)
        refine look _ ((Str.ofString "-") :: pre ++ [(p.row k).name]) o5 (Ff _) (Lr.oth (Ne.symm RF)) (by simpa using Lf.set (.str (Str.ofString "-") :: (pre.map D.str ++ [.str (p.row k).name]))) (by simp; omega) ?_
        unfold Pl.openAt
        simp [hb, c2]
      · simp [hb, c2]
        refine ⟨_, Lr.i, ?_⟩
        refine look hx ((Str.ofString "-") :: (List.range k).flatMap (p.openAt s rows)) o5 F Lr Lf (Nat.le_succ_of_le hl) ?_
        unfold Pl.openAt
        simp [hb, c2]
    · obtain ⟨o4, o5, e, F, Lr, Lf, hl⟩ := (hJ _ _ _).mp Ji
      subst e
      rw [List.length_map, List.length_range] at Lf
      refine ⟨trivial, ?_⟩
      simp
      rw [List.length_map, List.length_range] at hl
      refine q f hx F fz ?_ ?_
      · unfold Pl.open
        rw [if_neg c, hrows]
        exact Lf
      · unfold Pl.open
        rw [if_neg c, hrows]
        exact Nat.le_trans hl (by omega)
end
end MP

/-! text SP12 -/
set_option Elab.async false
set_option linter.all false
set_option maxRecDepth 100000
set_option maxHeartbeats 4000000
namespace MP
open PySem PySem.Spec PyProof.Rows
open L2 hiding St
/-! ### a moment's rows, by what they come from -/
abbrev dash : Str := Str.ofString "-"
def quiet (r : Row) : Prop := r.word ∈ [Str.ofString "came", Str.ofString "queued", Str.ofString "changed", Str.ofString "took", Str.ofString "done"]
def Pl.strikeRows (p : Pl) (word : Str) : List Row := if word ∈ p.names then [⟨Str.ofString "struck", none, some (p.names.idxOf word), (p.row (p.names.idxOf word)).repair⟩] else []
def Pl.workAt (p : Pl) (m : Mo) (word : Str) (k : Nat) : List Row := match m.bays[k]? with
  | some b => (p.work k b word).2
  | none => []
def Pl.workRows (p : Pl) (s : Sta) (word : Str) (tags : List Int) : List Row := (List.range p.rows.length).flatMap (p.workAt (p.mo2 s word tags) word)
section
variable {p : Pl}
/-- rows that are only added to, by quiet ones -/
def Grows (m m' : Mo) : Prop := ∃ X, m'.rows = m.rows ++ X ∧ ∀ r ∈ X, quiet r
theorem Grows.refl (m : Mo) : Grows m m := ⟨[], by simp, by simp⟩
theorem Grows.trans {a b c : Mo} (h : Grows a b) (g : Grows b c) : Grows a c := by
  obtain ⟨X, e, q⟩ := h
  obtain ⟨Y, e', q'⟩ := g
  refine ⟨X ++ Y, by rw [e', e, List.append_assoc], fun r hr => ?_⟩
  rcases List.mem_append.mp hr with hr | hr
  · exact q r hr
  · exact q' r hr
theorem enter1_grows (m : Mo) (st : List Part) (x : Part) : Grows m (p.enter1 (m, st) x).1 := by
  unfold Pl.enter1
  split
  · exact ⟨_, rfl, fun r hr => by rw [List.mem_singleton.mp hr]; simp [quiet]⟩
  · exact .refl m
theorem enters_grows : ∀ (xs : List Part) (m : Mo) (st : List Part), Grows m (xs.foldl p.enter1 (m, st)).1
  | [], m, st => .refl m
  | x :: xs, m, st => (enter1_grows m st x).trans (enters_grows xs _ (p.enter1 (m, st) x).2)
theorem begin1_grows (m : Mo) (k : Nat) : Grows m (p.begin1 m k) := by
  unfold Pl.begin1
  split
  · split
    · refine ⟨_, rfl, fun r hr => ?_⟩
      unfold Pl.begin at hr
      dsimp only at hr
      split at hr
      · simp at hr; rcases hr with rfl | rfl <;> simp [quiet]
      · simp at hr; rw [hr]; simp [quiet]
    · exact .refl m
  · exact .refl m
theorem out1_grows (m : Mo) (k : Nat) : Grows m (p.out1 m k) := by
  unfold Pl.out1
  split
  · split
    · split
      · exact ⟨_, rfl, fun r hr => by rw [List.mem_singleton.mp hr]; simp [quiet]⟩
      · split
        · exact ⟨_, rfl, fun r hr => by rw [List.mem_singleton.mp hr]; simp [quiet]⟩
        · exact .refl m
    · exact .refl m
  · exact .refl m
theorem begins_grows (m : Mo) : ∀ i, Grows m ((List.range i).foldl p.begin1 m)
  | 0 => .refl m
  | i + 1 => by rw [range_fold]; exact (begins_grows m i).trans (begin1_grows _ _)
theorem outs_grows (m : Mo) : ∀ i, Grows m (p.outs i m)
  | 0 => .refl m
  | i + 1 => by unfold Pl.outs; rw [range_fold]; exact (outs_grows m i).trans (out1_grows _ _)
theorem works_rows (m : Mo) (word : Str) : ∀ i, ((List.range i).foldl (p.work1 word) m).rows = m.rows ++ (List.range i).flatMap (p.workAt m word)
  | 0 => by simp
  | i + 1 => by
    rw [range_fold, List.range_succ, List.flatMap_append, ← List.append_assoc, ← works_rows m word i]
    have e := works_at (p := p) (m := m) (word := word) (k := i) i (Nat.le_refl _)
    generalize (List.range i).foldl (p.work1 word) m = m' at *
    unfold Pl.work1 Pl.workAt
    rw [e]
    cases h : m.bays[i]? with
    | none => simp [h]
    | some b => simp [h]
theorem told_form (s : Sta) (word : Str) (tags : List Int) : ∃ A O, p.told s word tags = p.strikeRows word ++ (A ++ (p.workRows s word tags ++ O)) ∧ (∀ r ∈ A, quiet r) ∧ ∀ r ∈ O, quiet r := by
  obtain ⟨X, e1, q1⟩ := (enters_grows (s.gate ++ p.fresh s.phase tags) (p.mo0 s word tags) []).trans (begins_grows (p := p) (p.mo1 s word tags).1 p.rows.length)
  obtain ⟨O, e2, q2⟩ := outs_grows (p := p) (p.mo3 s word tags) p.rows.length
  have e3 := works_rows (p := p) (p.mo2 s word tags) word p.rows.length
  have e4 : (p.mo0 s word tags).rows = p.strikeRows word ++ (p.fresh s.phase tags).map came := by
    unfold Pl.mo0 Pl.struck Pl.strikeRows
    split <;> rfl
  refine ⟨(p.fresh s.phase tags).map came ++ X, O, ?_, fun r hr => ?_, q2⟩
  · show (p.outs p.rows.length (p.mo3 s word tags)).rows = _
    rw [e2]
    show ((List.range p.rows.length).foldl (p.work1 word) (p.mo2 s word tags)).rows ++ O = _
    rw [e3]
    show (((List.range p.rows.length).foldl p.begin1 (p.mo1 s word tags).1).rows ++ p.workRows s word tags) ++ O = _
    rw [e1, e4]
    simp
  · rcases List.mem_append.mp hr with hr | hr
    · obtain ⟨x, _, rfl⟩ := List.mem_map.mp hr
      simp [quiet, came]
    · exact q1 r hr
theorem mem_workRows {s : Sta} {word : Str} {tags : List Int} {r : Row} : r ∈ p.workRows s word tags ↔ ∃ k b, k < p.rows.length ∧ (p.mo2 s word tags).bays[k]? = some b ∧ r ∈ (p.work k b word).2 := by
  unfold Pl.workRows Pl.workAt
  rw [List.mem_flatMap]
  constructor
  · rintro ⟨k, hk, hr⟩
    split at hr
    · rename_i b hb; exact ⟨k, b, by simpa using hk, hb, hr⟩
    · cases hr
  · rintro ⟨k, b, hk, hb, hr⟩
    exact ⟨k, by simpa using hk, by rw [hb]; exact hr⟩
/-- what a bay's work tells -/
theorem work_row {k : Nat} {b : Bay} {word : Str} {r : Row} (h : r ∈ (p.work k b word).2) : ¬ 0 < b.broken ∧ ¬ 0 < b.busy ∧ ∃ x, b.hold = some (x, 1) ∧ r = ⟨if word = bang (p.row k).name then Str.ofString "spoiled" else Str.ofString "finished", some x, some k, x.step⟩ := by
  unfold Pl.work at h
  split at h
  · simp at h
  split at h
  · simp at h
  rename_i h1 h2
  refine ⟨h1, h2, ?_⟩
  split at h
  · simp at h
  · rename_i x left e
    split at h
    · dsimp only at h
      split at h
      · rename_i hl
        subst hl
        refine ⟨x, e, ?_⟩
        unfold bang
        split at h
        · rename_i c; simp at h; rw [if_pos c]; exact h
        · rename_i c; simp at h; rw [if_neg c]; exact h
      · simp at h
    · simp at h
theorem work_row' {k : Nat} {b : Bay} {word : Str} {x : Part} (h1 : ¬ 0 < b.broken) (h2 : ¬ 0 < b.busy) (h : b.hold = some (x, 1)) : (⟨if word = bang (p.row k).name then Str.ofString "spoiled" else Str.ofString "finished", some x, some k, x.step⟩ : Row) ∈ (p.work k b word).2 := by
  unfold Pl.work bang
  rw [if_neg h1, if_neg h2, h]
  simp only
  rw [if_pos (by omega)]
  simp only [if_true]
  split <;> simp
/-! ### names and strikes -/
theorem Nm.noBang {x : Str} (h : Nm x) : 33 ∉ cs x := fun z => by have := h.ltr 33 z; omega
theorem dash_cs : cs dash = [45] := by decide +kernel
theorem bang_cs (x : Str) : cs (bang x) = cs x ++ [33] := by
  unfold bang
  rw [cs_app]
  congr 1
theorem bang_inj {x y : Str} (h : bang x = bang y) : x = y := by
  have := congrArg cs h
  rw [bang_cs, bang_cs] at this
  exact cs_ext (List.append_cancel_right this)
theorem bang_dash {x : Str} (hx : Nm x) : bang x ≠ dash := fun e => by
  have := congrArg cs e
  rw [bang_cs, dash_cs] at this
  have e2 := congrArg List.length this
  rw [List.length_append, List.length_singleton, List.length_singleton] at e2
  have := hx.pos
  rw [cs_len] at this
  omega
theorem names_nm (hp : PlOk p) {x : Str} (h : x ∈ p.names) : Nm x := by
  obtain ⟨y, hy, rfl⟩ := List.mem_map.mp h
  exact (hp.row y hy).2
theorem dash_out (hp : PlOk p) : dash ∉ p.names := fun z => by
  have := (names_nm hp z).ltr 45 (by rw [dash_cs]; simp)
  omega
theorem bang_out (hp : PlOk p) (x : Str) : bang x ∉ p.names := fun z => (names_nm hp z).noBang (by rw [bang_cs]; simp)
theorem row_name {k : Nat} (hk : k < p.rows.length) : (p.row k).name ∈ p.names := List.mem_map_of_mem (List.mem_of_getElem? (Pl.row_at hk))
theorem name_inj (hp : PlOk p) {i j : Nat} (hi : i < p.rows.length) (hj : j < p.rows.length) (e : (p.row i).name = (p.row j).name) : i = j := by
  have hi' : (p.rows.map Stn.name)[i]? = some (p.row i).name := by rw [List.getElem?_map, Pl.row_at hi]; rfl
  have hj' : (p.rows.map Stn.name)[j]? = some (p.row i).name := by rw [List.getElem?_map, Pl.row_at hj, e]; rfl
  exact Decidable.byContradiction fun n => nodup_ne hp.nd hi' hj' n rfl
theorem name_idx (hp : PlOk p) {k : Nat} (hk : k < p.rows.length) : p.names.idxOf (p.row k).name = k := by
  have h1 := row_name hk
  have h2 := idx_lt h1
  refine name_inj hp h2 hk ?_
  have := List.getElem_idxOf (List.idxOf_lt_length_of_mem h1)
  have e : (p.names)[p.names.idxOf (p.row k).name]? = some (p.row k).name := by rw [List.getElem?_eq_getElem (List.idxOf_lt_length_of_mem h1), this]
  unfold Pl.names at e
  rw [List.getElem?_map, Pl.row_at (by unfold Pl.names at h2; exact h2)] at e
  exact Option.some.inj e
theorem mo2_word {s : Sta} {word : Str} {tags : List Int} (h1 : word ∉ p.names) (h2 : dash ∉ p.names) : p.mo2 s word tags = p.mo2 s dash tags := by
  unfold Pl.mo2 Pl.mo1 Pl.mo0 Pl.struck
  rw [if_neg h1, if_neg h2]
/-- the strikes that are open: nothing, a station that is not broken, a step that may be spoiled -/
inductive IsOpen (p : Pl) (s : Sta) : Str → Prop
  | no : IsOpen p s dash
  | brk (k : Nat) : k < p.rows.length → IsOpen p s (p.row k).name
  | spl (k : Nat) (b : Bay) (x : Part) : k < p.rows.length → (p.mo2 s dash []).bays[k]? = some b → ¬ 0 < b.broken → ¬ 0 < b.busy → b.hold = some (x, 1) → (p.now x).back ≠ none → IsOpen p s (bang (p.row k).name)
theorem open_is (hp : PlOk p) {s : Sta} {gb qb : Nat} (hs : StaOk p s gb qb) {word : Str} (h : word ∈ p.open s) : IsOpen p s word := by
  unfold Pl.open at h
  split at h
  · rw [List.mem_singleton.mp h]; exact .no
  · rcases List.mem_cons.mp h with h | h
    · rw [h]; exact .no
    · obtain ⟨k, hk, h⟩ := List.mem_flatMap.mp h
      have hk : k < p.rows.length := by simpa using hk
      unfold Pl.openAt at h
      rcases List.mem_append.mp h with h | h
      · split at h
        · rw [List.mem_singleton.mp h]; exact .brk k hk
        · cases h
      · obtain ⟨r, hr, rfl⟩ := List.mem_map.mp h
        obtain ⟨hr, hsp⟩ := List.mem_filter.mp hr
        unfold Pl.spoils at hsp
        rw [Bool.and_eq_true, Bool.and_eq_true] at hsp
        obtain ⟨c1, c2, c3⟩ := hsp
        have c1 := of_decide_eq_true c1
        have c2 := of_decide_eq_true c2
        obtain ⟨A, O, e, qA, qO⟩ := told_form (p := p) s dash []
        have notq : ¬ quiet r := by unfold quiet; rw [c1]; decide +kernel
        have hw : r ∈ p.workRows s dash [] := by
          rw [show p.told s (Str.ofString "-") [] = p.told s dash [] from rfl, e] at hr
          rcases List.mem_append.mp hr with hr | hr
          · unfold Pl.strikeRows at hr
            rw [if_neg (dash_out hp)] at hr
            cases hr
          · rcases List.mem_append.mp hr with hr | hr
            · exact absurd (qA r hr) notq
            · rcases List.mem_append.mp hr with hr | hr
              · exact hr
              · exact absurd (qO r hr) notq
        obtain ⟨j, b, hj, hb, hr⟩ := mem_workRows.mp hw
        obtain ⟨n1, n2, x, hx, er⟩ := work_row hr
        rw [er] at c2 c3
        simp only [Option.some.injEq] at c2
        subst c2
        refine .spl j b x hj hb n1 n2 hx ?_
        have o := mo2_ok hp hs (word := dash) (tags := [])
        have ho := (o.hold b (List.mem_of_getElem? hb)).1
        rw [hx] at ho
        simp only [Int.toNat_natCast, Bool.and_eq_true] at c3
        rw [Pl.way_at (ho.2.2.1 (by omega))] at c3
        have := c3.2
        intro z
        rw [show (some (p.now x)).bind Stp1.back = (p.now x).back from rfl, z] at this
        cases this
theorem er_bay {m : Mo} {k : Nat} {b : Bay} (h : m.bays[k]? = some b) : m.er.bays[k]? = some b.er := by unfold Mo.er; simp [h]
theorem back_of (hp : PlOk p) {s : Sta} {word : Str} {tags : List Int} (h : IsOpen p s.er word) : ∀ k b, (p.mo2 s word tags).bays[k]? = some b → k < p.rows.length → BackOk p k b word := by
  intro k b hb hk n1 n2 x hx ew
  have ew : word = bang (p.row k).name := ew
  have nmk := names_nm hp (row_name hk)
  cases h with
  | no => exact absurd ew.symm (bang_dash nmk)
  | brk j hj => exact absurd (ew ▸ row_name hj) (bang_out hp _)
  | spl j b' x' hj hb' n1' n2' hx' bk =>
    have := name_inj hp hj hk (bang_inj ew)
    subst this
    have h1 := er_bay hb
    rw [mo2_er, mo2_word (bang_out hp _) (dash_out hp), hb'] at h1
    have h1 := Option.some.inj h1
    rw [h1] at hx'
    have e : b.er.hold = b.hold.map fun q => (q.1.er, q.2) := rfl
    rw [e, hx] at hx'
    simp only [Option.map_some, Option.some.injEq, Prod.mk.injEq] at hx'
    rw [← hx'.1] at bk
    exact bk
end
end MP

/-! text SP13 -/
set_option Elab.async false
set_option linter.all false
set_option maxRecDepth 100000
set_option maxHeartbeats 4000000
namespace MP
open PySem PySem.Spec PyProof.Rows
open L2 hiding St
/-! ### a course -/
def Pl.runs (p : Pl) (said : List Str) : Sta := said.foldl (fun s w => p.next s w []) p.start
structure CourseOk (p : Pl) (said : List Str) : Prop where
  len : said.length ≤ 40
  open_ : ∀ (i : Nat) w, said[i]? = some w → IsOpen p (p.runs (said.take i)) w
  mem : ∀ (i : Nat) w, said[i]? = some w → w ∈ p.open (p.runs (said.take i))
section
variable {p : Pl} {h : Hs}
theorem runs_snoc (said : List Str) (w : Str) : p.runs (said ++ [w]) = p.next (p.runs said) w [] := by unfold Pl.runs; rw [List.foldl_append]; rfl
theorem runs_ok (hp : PlOk p) : ∀ (n : Nat) (said : List Str), said.length = n → n ≤ 40 → StaOk p (p.runs said) (100 * n) (5000 * n) := by
  intro n
  induction n with
  | zero =>
    intro said h _
    rw [List.length_eq_zero_iff.mp h]
    exact start_sta
  | succ n ih =>
    intro said h hn
    have hne : said ≠ [] := by intro e; subst e; simp at h
    rw [← List.dropLast_concat_getLast hne, runs_snoc]
    have := nextS_ok hp (ih said.dropLast (by simp; omega) (by omega)) (word := said.getLast hne) (tags := [])
    exact ⟨this.bl, this.ql, this.hold, fun q hq => ⟨(this.part q hq).1, Nat.le_trans (this.part q hq).2 (by omega)⟩, this.gate, Nat.le_trans this.glen (by omega), Nat.le_trans this.slen (by omega)⟩
theorem start_er : p.start.er = p.start := by
  unfold Pl.start Sta.er
  simp [Function.comp_def, bay0, Bay.er]
theorem runs_er (said : List Str) : (p.runs said).er = p.runs said := by
  have key : ∀ n (said : List Str), said.length = n → (p.runs said).er = p.runs said := by
    intro n
    induction n with
    | zero => intro said h; rw [List.length_eq_zero_iff.mp h]; exact start_er
    | succ n ih =>
      intro said h
      have hne : said ≠ [] := by intro e; subst e; simp at h
      rw [← List.dropLast_concat_getLast hne, runs_snoc, next_er, ih said.dropLast (by simp; omega)]
  exact key _ _ rfl
theorem dash_back (hp : PlOk p) {s : Sta} {tags : List Int} : ∀ k b, (p.mo2 s dash tags).bays[k]? = some b → k < p.rows.length → BackOk p k b dash := back_of hp .no
theorem mo2_lt (hp : PlOk p) {s : Sta} {word : Str} {tags : List Int} {gb qb : Nat} (hs : StaOk p s gb qb) {k : Nat} {b : Bay} (h : (p.mo2 s word tags).bays[k]? = some b) : k < p.rows.length := by
  have := (List.getElem?_eq_some_iff.mp h).1
  rwa [(mo2_ok hp hs).bl] at this
theorem walk_ok {r : Nat} {many : Int} {Q : QE} (hp : PlOk p) (w : Rw r h) (m0 : 0 ≤ many) (m1 : many ≤ 40)
    (q : ∀ (said : List Str) S h', Gr r h h' → CourseOk p said → (said.length : Int) = many → Ls h' S (((List.range (said.length + 1)).map fun i => p.runs (said.take i)).map Sta.d) → Q (.tup [.tup (said.map D.str), .loc S]) h') : wF F_law_walk [.loc r, p.d, .int many] h Q := by
  unfold F_law_walk
  refine wF_runK ?_
  unfold S_law_walk
  simp
  refine start_ok hp fun h1 f1 => ?_
  have hr := w.lt
  have w1 := w.keep f1
  have e1 := f1.len
  have f2 : Fm [] h1 (h1 ++ [.lst [p.start.d], .lst []]) := (Fm.refl _ _).app _
  have LS : Ls (h1 ++ [.lst [p.start.d], .lst []]) h1.length [p.start.d] := by unfold Ls; simp
  have LT : Ls (h1 ++ [.lst [p.start.d], .lst []]) (h1.length + 1) [] := by unfold Ls; simp
  have G2 : Gr r h (h1 ++ [.lst [p.start.d], .lst []]) := ⟨f1.of0.trans f2.of0, w1.keep f2⟩
  rw [show h1 ++ [AO.lst [p.start.d], AO.lst [], AO.lst [D.int 1, D.int 2, D.int 2, D.int 6]] = (h1 ++ [AO.lst [p.start.d], AO.lst []]) ++ [AO.lst ([1, 2, 2, 6].map D.int)] by simp, show h1.length + 2 = (h1 ++ [AO.lst [p.start.d], AO.lst []]).length by simp]
  generalize h1 ++ [AO.lst [p.start.d], AO.lst []] = h2 at *
  obtain ⟨S, eS⟩ : ∃ S, S = h1.length := ⟨_, rfl⟩
  obtain ⟨T, eT⟩ : ∃ T, T = h1.length + 1 := ⟨_, rfl⟩
  rw [← eT] at LT ⊢
  rw [← eS] at LS ⊢
  refine pickN_ok [1, 2, 2, 6] 1 6 G2.rw (by decide) (by decide) (by decide) fun often h3 _ o1 o6 g3 => ?_
  refine ⟨by omega, ?_⟩
  have LS3 := LS.keep g3.fm (by simp; omega)
  have LT3 := LT.keep g3.fm (by simp; omega)
  have G3 := G2.trans g3
  obtain ⟨J, hJ⟩ : ∃ J : Nat → Rho → Hs → Prop, ∀ i ρ hx, J i ρ hx ↔ ∃ o4 o7 o8, ∃ said : List Str, ρ = [some (.loc r), some p.d, some (.int many), some (.int often), o4, some (.loc S), some (.loc T), o7, o8] ∧ Gr r h hx ∧
      Ls hx S (((List.range (said.length + 1)).map fun i => p.runs (said.take i)).map Sta.d) ∧ Ls hx T (said.map D.str) ∧ said.length = i ∧ CourseOk p said := ⟨_, fun _ _ _ => Iff.rfl⟩
  refine wFor_inv J ((hJ _ _ _).mpr ⟨none, none, none, [], rfl, G3, LS3, LT3, rfl, ⟨by simp, by simp, by simp⟩⟩) (fun i x ρ hx hi Ji => ?_) (fun ρ hx Ji => ?_)
  · obtain ⟨o4, o7, o8, said, e, G, Lx, Tx, hl, C⟩ := (hJ _ _ _).mp Ji
    subst e
    obtain ⟨hi1, rfl⟩ := rangeD_at hi
    have hi2 : i < 40 := by omega
    have so := runs_ok hp i said hl (by omega)
    -- the last state
    have elast : ((List.range (said.length + 1)).map fun i => p.runs (said.take i)) = ((List.range said.length).map fun i => p.runs (said.take i)) ++ [p.runs said] := by rw [List.range_succ, List.map_append]; simp
    rw [elast] at Lx
    generalize hpre : ((List.range said.length).map fun i => p.runs (said.take i)) = pre at *
    have plen : pre.length = i := by rw [← hpre]; simp [hl]
    have gl : ∀ hy, Ls hy S ((pre ++ [p.runs said]).map Sta.d) → ixO (.loc S) (.int (-1)) hy = some ((p.runs said).d, hy) := by
      intro hy L
      simp [L.i]
    have next : ∀ (wd : Str) (hy : Hs) o4 o7, Gr r h hy → Ls hy S ((pre ++ [p.runs said]).map Sta.d) → Ls hy T (said.map D.str) → wd ∈ p.open (p.runs said) →
        wS (sSeq (sExpr (mMeth isLst appendM (mVar 6) (aCons (mVar 8) aNil))) (sSeq (sExpr (mMeth isLst appendM (mVar 5) (aCons (mOp2 ixO (mCallF 4 F_law_moment (aCons (mVar 1) (aCons (mOp2 ixO (mVar 5) (mOp1 negO (mC (.int 1)))) (aCons (mVar 8) (aCons (mTup aNil) aNil))))) (mC (.int 0))) aNil))) sNext))
          [some (.loc r), some p.d, some (.int many), some (.int often), o4, some (.loc S), some (.loc T), o7, some (.str wd)] hy (loopK (J (i + 1)) (seqK (sSeq (sRet (mTup (aCons (mCallN tupleN (aCons (mVar 6) aNil)) (aCons (mVar 5) aNil)))) sNext) (retK Q))) := by
      intro wd hy o4 o7 Gy Ly Ty hopm
      have hop := open_is hp so hopm
      have tl : said.length < 16777216 := by omega
      have Sr : S ≠ r := by omega
      have Tr : T ≠ r := by omega
      have ST : S ≠ T := by omega
      have Ly1 := Ly.oth (m := T) (o := .lst (said.map D.str ++ [.str wd])) (Ne.symm ST)
      have Ty1 := Ty.set (said.map D.str ++ [.str wd])
      have Gy1 := Gy.set w (.lst (said.map D.str ++ [.str wd])) (n := T) (by omega)
      simp [Ty.l, isLst_of Ty, Ty.lt, tl]
      generalize hy.set T (.lst (said.map D.str ++ [.str wd])) = hz at *
      have gl1 := gl hz Ly1
      refine ⟨isLst_of Ly1, ?_⟩
      have Li := Ly1.i
      simp at Li
      simp [Li]
      refine moment_ok (tags := []) hp so (.inl rfl) (fun k b hb => back_of hp (by rw [runs_er]; exact hop) k b hb (mo2_lt hp so hb)) (by omega) (by omega) fun R h5 f5 _ _ => ?_
      have Ly5 := Ly1.keep0 f5
      have Ty5 := Ty1.keep0 f5
      have pl : pre.length + 1 < 16777216 := by omega
      have Ll := Ly5.l
      simp at Ll
      simp [Ll, pl]
      refine (hJ _ _ _).mpr ⟨_, _, _, said ++ [wd], rfl, (Gy1.keep f5).set w _ (by omega), ?_, by simpa using Ty5.oth (m := S) ST, by simp [hl], ⟨by simp; omega, fun j w' hj => ?_, fun j w' hj => ?_⟩⟩
      · have e3 : ((List.range ((said ++ [wd]).length + 1)).map fun i => p.runs ((said ++ [wd]).take i)) = pre ++ [p.runs said] ++ [p.next (p.runs said) wd []] := by
          rw [List.range_succ, List.map_append, List.length_append, List.length_singleton, ← elast]
          congr 1
          · refine List.map_congr_left fun j hj => ?_
            rw [List.take_append_of_le_length (by simp at hj; omega)]
          · rw [List.map_singleton, show (said ++ [wd]).take (said.length + 1) = said ++ [wd] from List.take_of_length_le (by simp), runs_snoc]
        rw [e3]
        simpa using Ly5.set (pre.map Sta.d ++ [(p.runs said).d, (p.next (p.runs said) wd []).d])
      · by_cases hjl : j < said.length
        · rw [List.getElem?_append_left hjl] at hj
          rw [List.take_append_of_le_length (by omega)]
          exact C.open_ j w' hj
        · have hl2 := (List.getElem?_eq_some_iff.mp hj).1
          have : j = said.length := by simp at hl2; omega
          subst this
          simp at hj
          subst hj
          simpa using hop
      · by_cases hjl : j < said.length
        · rw [List.getElem?_append_left hjl] at hj
          rw [List.take_append_of_le_length (by omega)]
          exact C.mem j w' hj
        · have hl2 := (List.getElem?_eq_some_iff.mp hj).1
          have : j = said.length := by simp at hl2; omega
          subst this
          simp at hj
          subst hj
          simpa using hopm
    have Li := Lx.i
    simp at Li
    simp [Li]
    refine open_ok hp so (by omega) (by omega) (fun k b hb => dash_back hp k b hb (mo2_lt hp so hb)) fun f h4 f4 ff L4 ol => ?_
    have Sr : S ≠ r := by omega
    have Tr : T ≠ r := by omega
    have Lx4 := Lx.keep0 f4
    have Tx4 := Tx.keep0 f4
    refine taken_ok (G.keep f4).rw (by omega) (by omega) fun v h5 v0 v1 g5 => ?_
    have Lx5 := Lx4.keep g5.fm (by simpa using Sr)
    have Tx5 := Tx4.keep g5.fm (by simpa using Tr)
    have L5 := L4.keep g5.fm (by have := G.rw.lt; simp; omega)
    simp
    split
    · refine pick_ok g5.rw L5.i (by unfold Pl.open; split <;> simp) ?_ (fun d h6 hd g6 => ?_) (by have := G.rw.lt; omega)
      · rw [List.length_map]; omega
      · obtain ⟨wd, hwd, rfl⟩ := List.mem_map.mp hd
        simpa using next wd h6 _ _ (((G.keep f4).trans g5).trans g6) (Lx5.keep g6.fm (by simpa using Sr)) (Tx5.keep g6.fm (by simpa using Tr)) hwd
    · simpa using next dash h5 _ _ ((G.keep f4).trans g5) Lx5 Tx5 (by unfold Pl.open; split <;> simp [dash])
  · obtain ⟨o4, o7, o8, said, e, G, Lx, Tx, hl, C⟩ := (hJ _ _ _).mp Ji
    subst e
    rw [rangeD_len] at hl
    refine ⟨trivial, ?_⟩
    simp [Tx.i]
    exact q said S hx G C (by omega) Lx
end
end MP

/-! text SP14 -/
set_option Elab.async false
set_option linter.all false
set_option maxRecDepth 100000
set_option maxHeartbeats 4000000
namespace MP
open PySem PySem.Spec PyProof.Rows
open L2 hiding St
/-! ### tags -/
/-- all parts' tags -/
structure MoT (T : Option Int → Prop) (m : Mo) : Prop where
  bay : ∀ b ∈ m.bays, ∀ x k, b.hold = some (x, k) → T x.tag
  que : ∀ q ∈ m.queues, ∀ x ∈ q, T x.tag
  row : ∀ r ∈ m.rows, ∀ x, r.part = some x → T x.tag
structure StaT (T : Option Int → Prop) (s : Sta) : Prop where
  bay : ∀ b ∈ s.bays, ∀ x k, b.hold = some (x, k) → T x.tag
  que : ∀ q ∈ s.queues, ∀ x ∈ q, T x.tag
  gate : ∀ x ∈ s.gate, T x.tag
section
variable {p : Pl} {T : Option Int → Prop}
theorem MoT.push {m : Mo} {k : Nat} {x : Part} (o : MoT T m) (hx : T x.tag) : MoT T (m.push k x) where
  bay := o.bay
  que := fun q hq => by
    rcases mem_modify hq with hq | ⟨q', hq', rfl⟩
    · exact o.que q hq
    · intro y hy
      rcases List.mem_append.mp hy with hy | hy
      · exact o.que q' (List.mem_of_getElem? hq') y hy
      · rw [List.mem_singleton.mp hy]; exact hx
  row := fun r hr y hy => by
    rcases List.mem_append.mp hr with hr | hr
    · exact o.row r hr y hy
    · rw [List.mem_singleton.mp hr] at hy; cases hy; exact hx
theorem MoT.free {m : Mo} {k : Nat} (o : MoT T m) : MoT T (m.free k) where
  bay := fun b hb x j e => by
    rcases mem_modify hb with hb | ⟨b', hb', rfl⟩
    · exact o.bay b hb x j e
    · cases e
  que := o.que
  row := o.row
theorem MoT.enter1 {m : Mo} {st : List Part} {x : Part} (o : MoT T m) (hx : T x.tag) : MoT T (p.enter1 (m, st) x).1 := by
  unfold Pl.enter1
  split
  · exact o.push hx
  · exact o
theorem MoT.begin1 {m : Mo} {k : Nat} (o : MoT T m) : MoT T (p.begin1 m k) := by
  unfold Pl.begin1
  split
  · rename_i b x q hb hq
    split
    · have hx := o.que _ (List.mem_of_getElem? hq)
      have hb2 : ∀ y j, (p.begin k b x).1.hold = some (y, j) → T y.tag := by
        intro y j e
        unfold Pl.begin at e
        dsimp only at e
        split at e <;> (cases e; exact hx _ List.mem_cons_self)
      have hb3 : ∀ r ∈ (p.begin k b x).2, ∀ y, r.part = some y → T y.tag := by
        intro r hr y e
        unfold Pl.begin at hr
        dsimp only at hr
        split at hr
        · simp at hr
          rcases hr with rfl | rfl <;> (cases e; exact hx _ List.mem_cons_self)
        · simp at hr
          rw [hr] at e; cases e; exact hx _ List.mem_cons_self
      exact {
        bay := fun b' hb' y j e => by
          rcases List.mem_or_eq_of_mem_set hb' with h | h
          · exact o.bay b' h y j e
          · rw [h] at e; exact hb2 y j e
        que := fun q' hq' y hy => by
          rcases List.mem_or_eq_of_mem_set hq' with h | h
          · exact o.que q' h y hy
          · rw [h] at hy; exact hx y (List.mem_cons_of_mem _ hy)
        row := fun r hr y e => by
          rcases List.mem_append.mp hr with h | h
          · exact o.row r h y e
          · exact hb3 r h y e }
    · exact o
  · exact o
theorem work_tag {k : Nat} {b : Bay} {word : Str} (hb : ∀ x j, b.hold = some (x, j) → T x.tag) : (∀ y j, (p.work k b word).1.hold = some (y, j) → T y.tag) ∧ ∀ r ∈ (p.work k b word).2, ∀ y, r.part = some y → T y.tag := by
  unfold Pl.work
  split
  · exact ⟨hb, by simp⟩
  split
  · exact ⟨hb, by simp⟩
  split
  · exact ⟨hb, by simp⟩
  · rename_i x left e
    have hx := hb x left e
    split
    · dsimp only
      split
      · split
        · exact ⟨fun y j e => by cases e; exact hx, fun r hr y e => by rw [List.mem_singleton.mp hr] at e; cases e; exact hx⟩
        · exact ⟨fun y j e => by cases e; exact hx, fun r hr y e => by rw [List.mem_singleton.mp hr] at e; cases e; exact hx⟩
      · exact ⟨fun y j e => by cases e; exact hx, by simp⟩
    · exact ⟨hb, by simp⟩
theorem MoT.work1 {m : Mo} {word : Str} {k : Nat} (o : MoT T m) : MoT T (p.work1 word m k) := by
  unfold Pl.work1
  split
  · rename_i b hb
    have w := work_tag (p := p) (k := k) (word := word) (o.bay b (List.mem_of_getElem? hb))
    exact {
      bay := fun b' hb' y j e => by
        rcases List.mem_or_eq_of_mem_set hb' with h | h
        · exact o.bay b' h y j e
        · rw [h] at e; exact w.1 y j e
      que := o.que
      row := fun r hr y e => by
        rcases List.mem_append.mp hr with h | h
        · exact o.row r h y e
        · exact w.2 r h y e }
  · exact o
theorem MoT.out1 {m : Mo} {k : Nat} (o : MoT T m) : MoT T (p.out1 m k) := by
  unfold Pl.out1
  split
  · rename_i x left e
    split
    · cases eb : m.bays[k]? with
      | none => rw [eb] at e; cases e
      | some b =>
      rw [eb] at e
      have e : b.hold = some (x, left) := e
      have hx := o.bay b (List.mem_of_getElem? eb) x left e
      split
      · exact MoT.free (m := { m with rows := _ }) ⟨o.bay, o.que, fun r hr y e => by
          rcases List.mem_append.mp hr with h | h
          · exact o.row r h y e
          · rw [List.mem_singleton.mp h] at e; cases e; exact hx⟩
      · split
        · exact (o.push hx).free
        · exact o
    · exact o
  · exact o
theorem mo4_tag {s : Sta} {word : Str} {tags : List Int} (hs : StaT T s) (hf : ∀ x ∈ p.fresh s.phase tags, T x.tag) : MoT T (p.mo4 s word tags) ∧ ∀ x ∈ (p.mo1 s word tags).2, T x.tag := by
  have o0 : MoT T (p.mo0 s word tags) := by
    have e : ∀ b ∈ (p.mo0 s word tags).bays, ∀ x k, b.hold = some (x, k) → T x.tag := by
      intro b hb x k e
      unfold Pl.mo0 Pl.struck at hb
      split at hb
      · rcases mem_modify hb with hb | ⟨b', hb', rfl⟩
        · exact hs.bay b hb x k e
        · exact hs.bay b' (List.mem_of_getElem? hb') x k e
      · exact hs.bay b hb x k e
    refine ⟨e, ?_, ?_⟩
    · unfold Pl.mo0 Pl.struck
      split <;> exact hs.que
    · intro r hr y e
      rcases List.mem_append.mp hr with h | h
      · unfold Pl.struck at h
        split at h
        · simp at h; rw [h] at e; cases e
        · simp at h
      · obtain ⟨z, hz, rfl⟩ := List.mem_map.mp h
        cases e
        exact hf _ hz
  have hin : ∀ x ∈ s.gate ++ p.fresh s.phase tags, T x.tag := fun x hx => by
    rcases List.mem_append.mp hx with h | h
    · exact hs.gate x h
    · exact hf x h
  have key : ∀ (xs : List Part) (m : Mo) (st : List Part), MoT T m → (∀ x ∈ st, T x.tag) → (∀ x ∈ xs, T x.tag) → MoT T (xs.foldl p.enter1 (m, st)).1 ∧ ∀ x ∈ (xs.foldl p.enter1 (m, st)).2, T x.tag := by
    intro xs
    induction xs with
    | nil => exact fun m st o hst _ => ⟨o, hst⟩
    | cons x xs ih =>
      intro m st o hst hxs
      refine ih (p.enter1 (m, st) x).1 (p.enter1 (m, st) x).2 (o.enter1 (hxs x List.mem_cons_self)) ?_ fun y hy => hxs y (List.mem_cons_of_mem _ hy)
      unfold Pl.enter1
      split
      · exact hst
      · intro y hy
        rcases List.mem_append.mp hy with h | h
        · exact hst y h
        · rw [List.mem_singleton.mp h]; exact hxs x List.mem_cons_self
  obtain ⟨o1, st1⟩ := key _ _ [] o0 (by simp) hin
  refine ⟨?_, st1⟩
  have o2 : ∀ i, MoT T ((List.range i).foldl p.begin1 (p.mo1 s word tags).1) := by
    intro i
    induction i with
    | zero => exact o1
    | succ i ih => rw [range_fold]; exact ih.begin1
  have o3 : ∀ i, MoT T ((List.range i).foldl (p.work1 word) (p.mo2 s word tags)) := by
    intro i
    induction i with
    | zero => exact o2 _
    | succ i ih => rw [range_fold]; exact ih.work1
  have o4 : ∀ i, MoT T (p.outs i (p.mo3 s word tags)) := by
    intro i
    induction i with
    | zero => exact o3 _
    | succ i ih => unfold Pl.outs; rw [range_fold]; exact ih.out1
  exact o4 _
theorem nextS_tag {s : Sta} {word : Str} {tags : List Int} (hs : StaT T s) (hf : ∀ x ∈ p.fresh s.phase tags, T x.tag) : StaT T (p.next s word tags) := by
  obtain ⟨o, g⟩ := mo4_tag (word := word) hs hf
  exact {
    bay := fun b hb x k e => by
      obtain ⟨b', hb', rfl⟩ := List.mem_map.mp hb
      have e : (b'.hold.map fun q => (q.1.older, q.2)) = some (x, k) := e
      cases h : b'.hold with
      | none => rw [h] at e; cases e
      | some q => rw [h] at e; cases e; exact o.bay b' hb' q.1 q.2 h
    que := fun q hq x hx => by
      obtain ⟨q', hq', rfl⟩ := List.mem_map.mp hq
      obtain ⟨x', hx', rfl⟩ := List.mem_map.mp hx
      exact o.que q' hq' x' hx'
    gate := fun x hx => by
      obtain ⟨x', hx', rfl⟩ := List.mem_map.mp hx
      exact g x' hx' }
theorem told_tag {s : Sta} {word : Str} {tags : List Int} (hs : StaT T s) (hf : ∀ x ∈ p.fresh s.phase tags, T x.tag) : ∀ r ∈ p.told s word tags, ∀ x, r.part = some x → T x.tag := (mo4_tag (word := word) hs hf).1.row
theorem start_tag : StaT T p.start where
  bay := fun b hb x k e => by
    obtain ⟨_, _, rfl⟩ := List.mem_map.mp hb
    cases e
  que := fun q hq x hx => by
    obtain ⟨_, _, rfl⟩ := List.mem_map.mp hq
    cases hx
  gate := by simp [Pl.start]
/-! ### rows' stations -/
theorem told_at (hp : PlOk p) {s : Sta} {word : Str} {tags : List Int} {gb qb : Nat} (hs : StaOk p s gb qb) : ∀ r ∈ p.told s word tags, ∀ k, r.at_ = some k → k < p.rows.length := by
  have h0 : ∀ r ∈ (p.mo0 s word tags).rows, ∀ k, r.at_ = some k → k < p.rows.length := by
    intro r hr k e
    rcases List.mem_append.mp hr with h | h
    · unfold Pl.struck at h
      split at h
      · rename_i hw
        simp at h; rw [h] at e; cases e; exact idx_lt hw
      · simp at h
    · obtain ⟨z, hz, rfl⟩ := List.mem_map.mp h
      cases e
  have hpush : ∀ (m : Mo) (k : Nat) (x : Part), k < p.rows.length → (∀ r ∈ m.rows, ∀ k, r.at_ = some k → k < p.rows.length) → ∀ r ∈ (m.push k x).rows, ∀ k, r.at_ = some k → k < p.rows.length := by
    intro m k x hk h r hr j e
    rcases List.mem_append.mp hr with h' | h'
    · exact h r h' j e
    · rw [List.mem_singleton.mp h'] at e; cases e; exact hk
  have h1 : ∀ (xs : List Part) (m : Mo) (st : List Part), (∀ x ∈ xs, PartOk p x) → (∀ r ∈ m.rows, ∀ k, r.at_ = some k → k < p.rows.length) → ∀ r ∈ (xs.foldl p.enter1 (m, st)).1.rows, ∀ k, r.at_ = some k → k < p.rows.length := by
    intro xs
    induction xs with
    | nil => exact fun m st _ h => h
    | cons x xs ih =>
      intro m st hx h
      refine ih (p.enter1 (m, st) x).1 (p.enter1 (m, st) x).2 (fun y hy => hx y (List.mem_cons_of_mem _ hy)) ?_
      unfold Pl.enter1
      split
      · exact hpush _ _ _ (goal_lt hp (hx x List.mem_cons_self)) h
      · exact h
  have h2 : ∀ i, i ≤ p.rows.length → ∀ r ∈ ((List.range i).foldl p.begin1 (p.mo1 s word tags).1).rows, ∀ k, r.at_ = some k → k < p.rows.length := by
    intro i
    induction i with
    | zero => exact fun _ => h1 _ _ _ (inside_ok' hp hs) h0
    | succ i ih =>
      intro hi
      rw [range_fold]
      intro r hr k e
      unfold Pl.begin1 at hr
      split at hr
      · split at hr
        · rcases List.mem_append.mp hr with h | h
          · exact ih (by omega) r h k e
          · unfold Pl.begin at h
            dsimp only at h
            split at h
            · simp at h
              rcases h with rfl | rfl <;> (cases e; omega)
            · simp at h; rw [h] at e; cases e; omega
        · exact ih (by omega) r hr k e
      · exact ih (by omega) r hr k e
  have h3 : ∀ i, i ≤ p.rows.length → ∀ r ∈ ((List.range i).foldl (p.work1 word) (p.mo2 s word tags)).rows, ∀ k, r.at_ = some k → k < p.rows.length := by
    intro i
    induction i with
    | zero => exact fun _ => h2 _ (Nat.le_refl _)
    | succ i ih =>
      intro hi
      rw [range_fold]
      intro r hr k e
      unfold Pl.work1 at hr
      split at hr
      · rcases List.mem_append.mp hr with h | h
        · exact ih (by omega) r h k e
        · obtain ⟨_, _, x, _, er⟩ := work_row h
          rw [er] at e; cases e; omega
      · exact ih (by omega) r hr k e
  have h4 : ∀ i, i ≤ p.rows.length → ∀ r ∈ (p.outs i (p.mo3 s word tags)).rows, ∀ k, r.at_ = some k → k < p.rows.length := by
    intro i
    induction i with
    | zero => exact fun _ => h3 _ (Nat.le_refl _)
    | succ i ih =>
      intro hi
      have o := outs_ok (mo3_ok hp hs (word := word) (tags := tags)) i
      unfold Pl.outs
      rw [range_fold]
      intro r hr k e
      have o : MoOk p ((List.range i).foldl (fun m j => p.out1 m (p.rows.length - 1 - j)) (p.mo3 s word tags)) _ _ := o
      have ih : ∀ r ∈ ((List.range i).foldl (fun m j => p.out1 m (p.rows.length - 1 - j)) (p.mo3 s word tags)).rows, ∀ k, r.at_ = some k → k < p.rows.length := ih (by omega)
      generalize (List.range i).foldl (fun m j => p.out1 m (p.rows.length - 1 - j)) (p.mo3 s word tags) = m at *
      unfold Pl.out1 at hr
      split at hr
      · rename_i x left ex
        split at hr
        · cases eb : m.bays[p.rows.length - 1 - i]? with
          | none => rw [eb] at ex; cases ex
          | some b =>
          rw [eb] at ex
          have ex : b.hold = some (x, left) := ex
          have hb := (o.hold b (List.mem_of_getElem? eb)).1
          rw [ex] at hb
          split at hr
          · rcases List.mem_append.mp hr with h | h
            · exact ih r h k e
            · rw [List.mem_singleton.mp h] at e; cases e; omega
          · rename_i hs'
            split at hr
            · exact hpush _ _ _ (goal_lt hp ⟨hb.1, by have := hb.2.2.2; omega⟩) ih r hr k e
            · exact ih r hr k e
        · exact ih r hr k e
      · exact ih r hr k e
  exact h4 _ (Nat.le_refl _)
end
end MP

/-! text SP15 -/
set_option Elab.async false
set_option linter.all false
set_option maxRecDepth 100000
set_option maxHeartbeats 4000000
namespace MP
open PySem PySem.Spec PyProof.Rows
open L2 hiding St
/-! ### a log -/
structure LRow where
  mom : Int
  word : Str
  tick : Int
  stn : Str
  num : Int
def LRow.d (r : LRow) : D := .tup [.int r.mom, .str r.word, .int r.tick, .str r.stn, .int r.num]
def Sta.inside (s : Sta) : List Part := s.gate ++ s.queues.flatten ++ s.bays.filterMap fun b => b.hold.map Prod.fst
def tagN (x : Part) : Int := x.tag.getD 0
def Pl.logRow (p : Pl) (i : Int) (r : Row) : LRow := ⟨i, r.word, (r.part.map tagN).getD 0, (r.at_.map fun k => (p.row k).name).getD ⟨#[]⟩, r.num⟩
def Pl.leadOf (p : Pl) (x : Part) : Int := ((p.orders[x.ord]?).map Order.lead).getD 0
def Pl.lates (p : Pl) (s : Sta) : List (Int × Int) := sortP ((s.inside.filter fun x => decide (x.age = p.leadOf x)).map fun x => (tagN x, x.age))
def lateRow (i : Int) (q : Int × Int) : LRow := ⟨i, "late", q.1, ⟨#[]⟩, q.2⟩
def Pl.tagsAt (p : Pl) (s : Sta) (c : Int) : List Int := (List.range (p.coming s.phase).length).map fun (k : Nat) => c + (k : Int)
structure LogS where
  st : Sta
  found : List LRow
  coming : Int
  i : Nat
def Pl.logStep (p : Pl) (l : LogS) (w : Str) : LogS :=
  ⟨p.next l.st w (p.tagsAt l.st l.coming), l.found ++ (p.told l.st w (p.tagsAt l.st l.coming)).map (p.logRow l.i) ++ (p.lates (p.next l.st w (p.tagsAt l.st l.coming))).map (lateRow l.i), l.coming + (p.coming l.st.phase).length, l.i + 1⟩
def Pl.logAll (p : Pl) (said : List Str) : LogS := said.foldl p.logStep ⟨p.start, [], 1, 0⟩
section
variable {p : Pl} {h : Hs} {Q : QE}
theorem inside_okD {s : Sta} (hb : s.bays.length ≤ 1000) (hq : s.queues.length ≤ 30) (hql : ∀ q ∈ s.queues, q.length ≤ 400000) (hg : s.gate.length ≤ 100000) (q : ∀ f h', Fm [] h h' → Ls h' f (s.inside.map Part.d) → Q (.loc f) h') : wF F_law_inside [s.d] h Q := by
  unfold F_law_inside
  refine wF_runK ?_
  unfold S_law_inside
  simp
  have f0 : Fm [] h (h ++ [.lst (s.gate.map Part.d)]) := (Fm.refl _ _).app _
  have L0 := Ls.new h (s.gate.map Part.d)
  obtain ⟨f, ef⟩ : ∃ f, f = h.length := ⟨_, rfl⟩
  rw [← ef] at L0 ⊢
  generalize h ++ [AO.lst (s.gate.map Part.d)] = h0 at *
  obtain ⟨J, hJ⟩ : ∃ J : Nat → Rho → Hs → Prop, ∀ i ρ hx, J i ρ hx ↔ ∃ o2, ρ = [some s.d, some (.loc f), o2, none] ∧ Fm [] h hx ∧ Ls hx f ((s.gate ++ (s.queues.take i).flatten).map Part.d) ∧ (s.gate ++ (s.queues.take i).flatten).length ≤ 100000 + i * 400000 := ⟨_, fun _ _ _ => Iff.rfl⟩
  refine wFor_inv J ((hJ _ _ _).mpr ⟨none, rfl, f0, by simpa using L0, by simp; omega⟩) (fun i x ρ hx hi Ji => ?_) (fun ρ hx Ji => ?_)
  · obtain ⟨o2, e, F, L, ll⟩ := (hJ _ _ _).mp Ji
    subst e
    rw [List.getElem?_map] at hi
    cases eq : s.queues[i]? with
    | none => rw [eq] at hi; cases hi
    | some qu =>
    rw [eq] at hi
    cases hi
    have hil := (List.getElem?_eq_some_iff.mp eq).1
    have et : s.gate ++ (s.queues.take (i + 1)).flatten = s.gate ++ (s.queues.take i).flatten ++ qu := by rw [List.take_add_one, eq]; simp
    have ql := hql qu (List.mem_of_getElem? eq)
    generalize s.gate ++ (s.queues.take i).flatten = pre at *
    have n1 : pre.length + qu.length ≤ 16777216 := by omega
    simp [isLst_of L, queueD, L.l, n1]
    refine (hJ _ _ _).mpr ⟨_, rfl, F.set _ (.inr (by omega)), by rw [et]; simpa using L.set (pre.map Part.d ++ qu.map Part.d), by rw [et]; simp; omega⟩
  · obtain ⟨o2, e, F, L, ll⟩ := (hJ _ _ _).mp Ji
    subst e
    rw [List.length_map, List.take_length] at L ll
    refine ⟨trivial, ?_⟩
    simp
    refine wLc_pureM (fun b : Bay => b.hold.isSome) (fun b => (partO (b.hold.map Prod.fst))) (by simp; omega) (fun _ _ => trivial) (fun b h1 hx f => ?_) (fun h1 f1 L1 => ?_)
    · cases hb : b.hold with
      | none => simp [hb]
      | some xk => obtain ⟨x, k⟩ := xk; simp [hb]
    · have e1 : ((s.bays.filter fun b => b.hold.isSome).map fun b => partO (b.hold.map Prod.fst)) = (s.bays.filterMap fun b => b.hold.map Prod.fst).map Part.d := by
        generalize s.bays = bs
        induction bs with
        | nil => rfl
        | cons b bs ih =>
          cases hb : b.hold with
          | none => simp [hb]; simpa using ih
          | some xk => simp [hb]; simpa using ih
      rw [e1] at L1
      have ll2 : (s.bays.filterMap fun b => b.hold.map Prod.fst).length ≤ 1000 := Nat.le_trans (List.length_filterMap_le _ _) hb
      have La := L.keep0 f1
      have n2 : (s.gate ++ s.queues.flatten).length + (s.bays.filterMap fun b => b.hold.map Prod.fst).length ≤ 16777216 := by
        have : (s.gate ++ s.queues.flatten).length ≤ 100000 + s.queues.length * 400000 := by simpa using ll
        omega
      have e2 : s.inside = (s.gate ++ s.queues.flatten) ++ (s.bays.filterMap fun b => b.hold.map Prod.fst) := rfl
      rw [e2] at q
      generalize (s.gate ++ s.queues.flatten) = pre at *
      generalize (s.bays.filterMap fun b => b.hold.map Prod.fst) = post at *
      simp [La.l, isLst_of La, L1.l, isLst_of L1, n2]
      exact q _ _ ((F.trans f1).app _) (by simpa using Ls.new h1 (pre.map Part.d ++ post.map Part.d))
end
end MP

/-! text SP16 -/
set_option Elab.async false
set_option linter.all false
set_option maxRecDepth 100000
set_option maxHeartbeats 4000000
namespace MP
open PySem PySem.Spec PyProof.Rows
open L2 hiding St
/-! ### how many parts are inside -/
def sumL {α : Type} (f : α → Nat) (xs : List α) : Nat := (xs.map f).sum
theorem sumL_cons {α : Type} (f : α → Nat) (x : α) (xs : List α) : sumL f (x :: xs) = f x + sumL f xs := by unfold sumL; simp
theorem sumL_set {α : Type} (f : α → Nat) : ∀ (xs : List α) (k : Nat) (x y : α), xs[k]? = some x → sumL f (xs.set k y) + f x = sumL f xs + f y
  | [], k, x, y, h => by simp at h
  | a :: xs, 0, x, y, h => by
    simp at h; subst h
    rw [List.set_cons_zero, sumL_cons, sumL_cons]; omega
  | a :: xs, k + 1, x, y, h => by
    have := sumL_set f xs k x y (by simpa using h)
    rw [List.set_cons_succ, sumL_cons, sumL_cons]; omega
theorem sumL_modify {α : Type} (f : α → Nat) (g : α → α) (n : Nat) (hg : ∀ x, f (g x) ≤ f x + n) : ∀ (xs : List α) (k : Nat), sumL f (xs.modify k g) ≤ sumL f xs + n
  | [], k => by simp [sumL]
  | a :: xs, 0 => by
    have := hg a
    rw [List.modify_zero_cons, sumL_cons, sumL_cons]; omega
  | a :: xs, k + 1 => by
    have := sumL_modify f g n hg xs k
    rw [List.modify_succ_cons, sumL_cons, sumL_cons]; omega
theorem sumL_map {α β : Type} (f : β → Nat) (g : α → β) (xs : List α) : sumL f (xs.map g) = sumL (fun x => f (g x)) xs := by unfold sumL; rw [List.map_map]; rfl
def holdN (b : Bay) : Nat := if b.hold.isSome then 1 else 0
def Mo.cnt (m : Mo) : Nat := sumL List.length m.queues + sumL holdN m.bays
def Sta.cnt (s : Sta) : Nat := s.gate.length + sumL List.length s.queues + sumL holdN s.bays
theorem inside_cnt (s : Sta) : s.inside.length = s.cnt := by
  unfold Sta.inside Sta.cnt
  rw [List.length_append, List.length_append, List.length_flatten]
  congr 1
  generalize s.bays = bs
  induction bs with
  | nil => rfl
  | cons b bs ih =>
    rw [sumL_cons, ← ih]
    unfold holdN
    cases h : b.hold <;> simp [h]; omega
section
variable {p : Pl}
theorem push_cnt (m : Mo) (k : Nat) (x : Part) : (m.push k x).cnt ≤ m.cnt + 1 := by
  unfold Mo.cnt Mo.push
  have := sumL_modify (List.length (α := Part)) (· ++ [x]) 1 (fun q => by simp) m.queues k
  show sumL List.length (m.queues.modify k (· ++ [x])) + sumL holdN m.bays ≤ _
  omega
theorem enter1_cnt (m : Mo) (st : List Part) (x : Part) : (p.enter1 (m, st) x).1.cnt + (p.enter1 (m, st) x).2.length ≤ m.cnt + st.length + 1 := by
  unfold Pl.enter1
  split
  · have := push_cnt m (p.goal x) x
    show (m.push (p.goal x) x).cnt + st.length ≤ _
    omega
  · simp; omega
theorem enters_cnt : ∀ (xs : List Part) (m : Mo) (st : List Part), (xs.foldl p.enter1 (m, st)).1.cnt + (xs.foldl p.enter1 (m, st)).2.length ≤ m.cnt + st.length + xs.length
  | [], m, st => by simp
  | x :: xs, m, st => by
    have h1 := enter1_cnt (p := p) m st x
    have h2 := enters_cnt xs (p.enter1 (m, st) x).1 (p.enter1 (m, st) x).2
    rw [List.foldl_cons, List.length_cons]
    have h2 : (xs.foldl p.enter1 (p.enter1 (m, st) x)).1.cnt + (xs.foldl p.enter1 (p.enter1 (m, st) x)).2.length ≤ _ := h2
    omega
theorem begin1_cnt (m : Mo) (k : Nat) : (p.begin1 m k).cnt ≤ m.cnt := by
  unfold Pl.begin1
  split
  · rename_i b x q hb hq
    split
    · rename_i c
      have h1 := sumL_set (List.length (α := Part)) m.queues k (x :: q) q hq
      have h2 := sumL_set holdN m.bays k b (p.begin k b x).1 hb
      have h3 : holdN b = 0 := by unfold holdN; rw [c.2]; rfl
      have h4 : holdN (p.begin k b x).1 ≤ 1 := by unfold holdN; split <;> omega
      unfold Mo.cnt
      simp only [List.length_cons] at h1
      show sumL List.length (m.queues.set k q) + sumL holdN (m.bays.set k (p.begin k b x).1) ≤ _
      omega
    · exact Nat.le_refl _
  · exact Nat.le_refl _
theorem work_hn {k : Nat} {b : Bay} {word : Str} : holdN (p.work k b word).1 ≤ holdN b := by
  unfold Pl.work
  split
  · exact Nat.le_refl _
  split
  · exact Nat.le_refl _
  split
  · exact Nat.le_refl _
  · rename_i x left e
    have hb : holdN b = 1 := by unfold holdN; rw [e]; rfl
    have : ∀ b' : Bay, holdN b' ≤ 1 := fun b' => by unfold holdN; split <;> omega
    rw [hb]
    exact this _
theorem work1_cnt (word : Str) (m : Mo) (k : Nat) : (p.work1 word m k).cnt ≤ m.cnt := by
  unfold Pl.work1
  split
  · rename_i b hb
    have h2 := sumL_set holdN m.bays k b (p.work k b word).1 hb
    have h3 := work_hn (p := p) (k := k) (b := b) (word := word)
    unfold Mo.cnt
    show sumL List.length m.queues + sumL holdN (m.bays.set k (p.work k b word).1) ≤ _
    omega
  · exact Nat.le_refl _
theorem free_cnt {m : Mo} {k : Nat} {b : Bay} (hb : m.bays[k]? = some b) (hh : b.hold.isSome = true) : (m.free k).cnt + 1 ≤ m.cnt := by
  have h2 := sumL_set holdN m.bays k b { b with hold := none } hb
  have h3 : holdN b = 1 := by unfold holdN; rw [if_pos hh]
  have h4 : holdN { b with hold := none } = 0 := rfl
  unfold Mo.cnt Mo.free
  rw [modify_at hb]
  show sumL List.length m.queues + sumL holdN (m.bays.set k { b with hold := none }) + 1 ≤ _
  omega
theorem out1_cnt (m : Mo) (k : Nat) : (p.out1 m k).cnt ≤ m.cnt := by
  unfold Pl.out1
  split
  · rename_i x left e
    split
    · cases eb : m.bays[k]? with
      | none => rw [eb] at e; cases e
      | some b =>
      rw [eb] at e
      have e : b.hold = some (x, left) := e
      have hh : b.hold.isSome = true := by rw [e]; rfl
      split
      · have := free_cnt (m := { m with rows := m.rows ++ [⟨"done", some x, some k, x.age + 1⟩] }) eb hh
        have h2 : ({ m with rows := m.rows ++ [⟨"done", some x, some k, x.age + 1⟩] } : Mo).cnt = m.cnt := rfl
        omega
      · split
        · have := free_cnt (m := m.push (p.goal x) x) (k := k) eb hh
          have := push_cnt m (p.goal x) x
          omega
        · exact Nat.le_refl _
    · exact Nat.le_refl _
  · exact Nat.le_refl _
theorem mo4_cnt (hp : PlOk p) (s : Sta) (word : Str) (tags : List Int) : (p.mo4 s word tags).cnt + (p.mo1 s word tags).2.length ≤ s.cnt + 100 := by
  have e0 : (p.mo0 s word tags).cnt ≤ sumL List.length s.queues + sumL holdN s.bays := by
    unfold Pl.mo0 Pl.struck Mo.cnt
    split
    · have := sumL_modify holdN (fun b => { b with broken := (p.row (p.names.idxOf word)).repair }) 0 (fun b => Nat.le_refl _) s.bays (p.names.idxOf word)
      show sumL List.length s.queues + sumL holdN (s.bays.modify _ _) ≤ _
      omega
    · exact Nat.le_refl _
  have e1 := enters_cnt (p := p) (s.gate ++ p.fresh s.phase tags) (p.mo0 s word tags) []
  have e2 : ∀ i, ((List.range i).foldl p.begin1 (p.mo1 s word tags).1).cnt ≤ (p.mo1 s word tags).1.cnt := by
    intro i
    induction i with
    | zero => exact Nat.le_refl _
    | succ i ih => rw [range_fold]; exact Nat.le_trans (begin1_cnt _ _) ih
  have e3 : ∀ i, ((List.range i).foldl (p.work1 word) (p.mo2 s word tags)).cnt ≤ (p.mo2 s word tags).cnt := by
    intro i
    induction i with
    | zero => exact Nat.le_refl _
    | succ i ih => rw [range_fold]; exact Nat.le_trans (work1_cnt _ _ _) ih
  have e4 : ∀ i, (p.outs i (p.mo3 s word tags)).cnt ≤ (p.mo3 s word tags).cnt := by
    intro i
    induction i with
    | zero => exact Nat.le_refl _
    | succ i ih => unfold Pl.outs; rw [range_fold]; exact Nat.le_trans (out1_cnt _ _) ih
  have h2 := e2 p.rows.length
  have h3 := e3 p.rows.length
  have h4 := e4 p.rows.length
  have fl := coming_len p s.phase
  have ol := hp.olen
  have il : (s.gate ++ p.fresh s.phase tags).length = s.gate.length + (p.coming s.phase).length := by rw [List.length_append, fresh_len]
  have e1 : (p.mo1 s word tags).1.cnt + (p.mo1 s word tags).2.length ≤ (p.mo0 s word tags).cnt + 0 + (s.gate ++ p.fresh s.phase tags).length := e1
  have h2 : (p.mo2 s word tags).cnt ≤ (p.mo1 s word tags).1.cnt := h2
  have h3 : (p.mo3 s word tags).cnt ≤ (p.mo2 s word tags).cnt := h3
  have h4 : (p.mo4 s word tags).cnt ≤ (p.mo3 s word tags).cnt := h4
  unfold Sta.cnt
  omega
theorem next_cnt (hp : PlOk p) (s : Sta) (word : Str) (tags : List Int) : (p.next s word tags).cnt ≤ s.cnt + 100 := by
  have h := mo4_cnt hp s word tags
  have e : (p.next s word tags).cnt = (p.mo1 s word tags).2.length + sumL List.length (p.mo4 s word tags).queues + sumL holdN (p.mo4 s word tags).bays := by
    unfold Pl.next Pl.closed Sta.cnt
    simp only [sumL_map, List.length_map]
    congr 1
    congr 1
    funext b
    unfold holdN Bay.older
    cases b.hold <;> rfl
  rw [e]
  unfold Mo.cnt at h
  omega
end
end MP

/-! text SP17 -/
set_option Elab.async false
set_option linter.all false
set_option maxRecDepth 100000
set_option maxHeartbeats 4000000
namespace MP
open PySem PySem.Spec PyProof.Rows
open L2 hiding St
section
variable {p : Pl} {h : Hs} {Q : QE}
def Tagged (o : Option Int) : Prop := ∃ n, o = some n ∧ 1 ≤ n
structure LogOk (p : Pl) (said : List Str) (l : LogS) : Prop where
  st : StaOk p l.st (100 * said.length) (5000 * said.length)
  er : l.st.er = p.runs said
  tag : StaT Tagged l.st
  one : 1 ≤ l.coming
  i : l.i = said.length
  cnt : l.st.cnt ≤ 100 * said.length
  len : l.found.length ≤ said.length * 10000
theorem logAll_snoc (said : List Str) (w : Str) : p.logAll (said ++ [w]) = p.logStep (p.logAll said) w := by unfold Pl.logAll; rw [List.foldl_append]; rfl
theorem tagsAt_len (s : Sta) (c : Int) : (p.tagsAt s c).length = (p.coming s.phase).length := by unfold Pl.tagsAt; simp
theorem fresh_tag {s : Sta} {c : Int} (hc : 1 ≤ c) : ∀ x ∈ p.fresh s.phase (p.tagsAt s c), Tagged x.tag := by
  intro x hx
  obtain ⟨i, hi, e⟩ := List.mem_mapIdx.mp hx
  subst e
  have : (p.tagsAt s c)[i]? = some (c + (i : Int)) := by
    unfold Pl.tagsAt
    rw [List.getElem?_map, List.getElem?_range hi]; rfl
  exact ⟨c + i, this, by omega⟩
theorem start_cnt : p.start.cnt = 0 := by
  have z : ∀ (α : Type) (f : α → Nat) (xs : List α), (∀ x, f x = 0) → sumL f xs = 0 := by
    intro α f xs hf
    induction xs with
    | nil => rfl
    | cons x xs ih => rw [sumL_cons, ih, hf]
  unfold Pl.start Sta.cnt
  rw [sumL_map, sumL_map]
  have a := z Stn (fun _ => ([] : List Part).length) p.rows (fun _ => rfl)
  have b := z Stn (fun _ => holdN bay0) p.rows (fun _ => rfl)
  show 0 + sumL (fun _ => ([] : List Part).length) p.rows + sumL (fun _ => holdN bay0) p.rows = 0
  rw [a, b]
theorem sortP_len (xs : List (Int × Int)) : (sortP xs).length = xs.length := (List.mergeSort_perm xs leP).length_eq
theorem told_len (hp : PlOk p) {s : Sta} {word : Str} {tags : List Int} {gb qb : Nat} (hs : StaOk p s gb qb) : (p.told s word tags).length ≤ gb + 501 := (mo4_ok hp hs).rows
theorem lates_len (s : Sta) : (p.lates s).length ≤ s.cnt := by
  unfold Pl.lates
  rw [sortP_len, List.length_map, ← inside_cnt]
  exact List.length_filter_le _ _
theorem logOk_step (hp : PlOk p) {said : List Str} {w : Str} {l : LogS} (o : LogOk p said l) (hn : said.length < 40) : LogOk p (said ++ [w]) (p.logStep l w) where
  st := by
    have := nextS_ok hp o.st (word := w) (tags := p.tagsAt l.st l.coming)
    rw [List.length_append, List.length_singleton]
    exact ⟨this.bl, this.ql, this.hold, fun q hq => ⟨(this.part q hq).1, Nat.le_trans (this.part q hq).2 (by omega)⟩, this.gate, Nat.le_trans this.glen (by omega), Nat.le_trans this.slen (by omega)⟩
  er := by
    show (p.next l.st w _).er = _
    rw [next_er, o.er, runs_snoc]
  tag := nextS_tag o.tag (fresh_tag o.one)
  one := by
    have := o.one
    show 1 ≤ l.coming + ((p.coming l.st.phase).length : Int)
    omega
  i := by show l.i + 1 = _; rw [o.i]; simp
  cnt := by
    have h := next_cnt hp l.st w (p.tagsAt l.st l.coming)
    have h2 := o.cnt
    show (p.next l.st w _).cnt ≤ _
    rw [List.length_append, List.length_singleton]
    omega
  len := by
    have h1 := told_len hp o.st (word := w) (tags := p.tagsAt l.st l.coming)
    have h2 := lates_len (p := p) (p.next l.st w (p.tagsAt l.st l.coming))
    have h := next_cnt hp l.st w (p.tagsAt l.st l.coming)
    have h3 := o.cnt
    have h4 := o.len
    show (l.found ++ _ ++ _).length ≤ _
    simp only [List.length_append, List.length_map, List.length_singleton]
    omega
theorem logOk_all (hp : PlOk p) : ∀ (n : Nat) (said : List Str), said.length = n → n ≤ 40 → LogOk p said (p.logAll said) := by
  intro n
  induction n with
  | zero =>
    intro said h _
    rw [List.length_eq_zero_iff.mp h]
    exact ⟨start_sta, start_er, start_tag, by simp [Pl.logAll], rfl, by rw [show (p.logAll []).st = p.start from rfl, start_cnt]; omega, by simp [Pl.logAll]⟩
  | succ n ih =>
    intro said h hn
    have hne : said ≠ [] := by intro e; subst e; simp at h
    have hl : said.dropLast.length = n := by simp; omega
    rw [← List.dropLast_concat_getLast hne, logAll_snoc]
    exact logOk_step hp (ih _ hl (by omega)) (by omega)
theorem coming_count (p : Pl) (phase : Int) : ((p.orders.filter fun o => decide (o.phase = phase)).length) = (p.coming phase).length := by
  have e : p.orders = (List.range p.orders.length).map fun k => (p.orders[k]?).getD ⟨0, ⟨#[]⟩, 0⟩ := by
    refine List.ext_getElem? fun i => ?_
    rw [List.getElem?_map]
    by_cases hi : i < p.orders.length
    · rw [List.getElem?_range hi, List.getElem?_eq_getElem hi]
      simp [List.getElem?_eq_getElem hi]
    · rw [List.getElem?_eq_none (by omega), List.getElem?_eq_none (by simp; omega)]; rfl
  unfold Pl.coming
  conv => lhs; rw [e]
  rw [List.filter_map, List.length_map]
  congr 1
  refine List.filter_congr fun k hk => ?_
  cases h : p.orders[k]? <;> simp [h]
/-- one moment's rows go into the log -/
theorem log_rows {course : D} {i f R : Nat} {st : Sta} {cm mn : D} {found : List LRow} {rows : List Row} {o7 o9 o10 o11 o12 o13 o14 : Option D} {Q : QS} (hp : PlOk p) (htag : ∀ r ∈ rows, ∀ x, r.part = some x → Tagged x.tag) (hat : ∀ r ∈ rows, ∀ k, r.at_ = some k → k < p.rows.length)
    (Lf : Ls h f (found.map LRow.d)) (LR : Ls h R (rows.map Row.d)) (fR : f ≠ R) (hl : found.length + rows.length ≤ 10000000)
    (q : ∀ h' o9 o10 o11 o12, Fm [f] h h' → Ls h' f ((found ++ rows.map (p.logRow i)).map LRow.d) → Q .nx [some p.d, some course, some (.int i), some st.d, some (.loc f), some cm, some mn, o7, some (.loc R), o9, o10, o11, o12, o13, o14] h') :
    wFor (some (R, rows.map Row.d)) (gTupM 4 (gsCons (gVar 9) (gsCons (gVar 10) (gsCons (gVar 11) (gsCons (gVar 12) gsNil))))) (sSeq (sExpr (mMeth isLst appendM (mVar 4) (aCons (mTup (aCons (mVar 2) (aCons (mVar 9) (aCons (mIf (bBool (mOp2 isO (mVar 10) (mC .non))) (mC (.int 0)) (mOp2 ixO (mVar 10) (mC (.int 4)))) (aCons (mIf (bBool (mOp2 isO (mVar 11) (mC .non))) (mC (.str "")) (mOp2 ixO (mOp2 ixO (mOp2 ixO (mVar 0) (mC (.int 0))) (mVar 11)) (mC (.int 0)))) (aCons (mVar 12) aNil)))))) aNil))) sNext) (rows.map Row.d) [some p.d, some course, some (.int i), some st.d, some (.loc f), some cm, some mn, o7, some (.loc R), o9, o10, o11, o12, o13, o14] h Q := by
  obtain ⟨J, hJ⟩ : ∃ J : Nat → Rho → Hs → Prop, ∀ j ρ hx, J j ρ hx ↔ ∃ o9 o10 o11 o12, ρ = [some p.d, some course, some (.int i), some st.d, some (.loc f), some cm, some mn, o7, some (.loc R), o9, o10, o11, o12, o13, o14] ∧ Fm [f] h hx ∧ Ls hx f ((found ++ (rows.take j).map (p.logRow i)).map LRow.d) := ⟨_, fun _ _ _ => Iff.rfl⟩
  refine wFor_inv J ((hJ _ _ _).mpr ⟨o9, o10, o11, o12, rfl, Fm.refl _ _, by simpa using Lf⟩) (fun j x ρ hx hj Jj => ?_) (fun ρ hx Jj => ?_)
  · obtain ⟨o9, o10, o11, o12, e, F, L⟩ := (hJ _ _ _).mp Jj
    subst e
    rw [List.getElem?_map] at hj
    cases er : rows[j]? with
    | none => rw [er] at hj; cases hj
    | some r =>
    rw [er] at hj
    cases hj
    have jl := (List.getElem?_eq_some_iff.mp er).1
    have hr := List.mem_of_getElem? er
    have et : found ++ (rows.take (j + 1)).map (p.logRow i) = found ++ (rows.take j).map (p.logRow i) ++ [p.logRow i r] := by rw [List.take_add_one, er]; simp
    have LR' := LR.keep F (by simpa using Ne.symm fR)
    refine ⟨LR'.i, ?_⟩
    have n1 : (found ++ (rows.take j).map (p.logRow i)).length < 16777216 := by simp; omega
    generalize found ++ (rows.take j).map (p.logRow i) = pre at *
    have fin : ∀ (o9 o10 o11 o12 : Option D) (d : D), d = (p.logRow i r).d → J (j + 1) [some p.d, some course, some (.int i), some st.d, some (.loc f), some cm, some mn, o7, some (.loc R), o9, o10, o11, o12, o13, o14] (hx.set f (.lst (pre.map LRow.d ++ [d]))) := by
      intro o9 o10 o11 o12 d ed
      subst ed
      exact (hJ _ _ _).mpr ⟨_, _, _, _, rfl, F.set _ (.inl (by simp)), by rw [et]; simpa using L.set (pre.map LRow.d ++ [(p.logRow i r).d])⟩
    have tg : ∀ x, r.part = some x → ∀ h, ixO x.d (.int 4) h = some (.int (tagN x), h) := by
      intro x hx h
      obtain ⟨n, en, _⟩ := htag r hr x hx
      unfold Part.d tagN
      simp [en]
    simp [isLst_of L]
    cases ep : r.part with
    | none =>
      cases ea : r.at_ with
      | none =>
        simp [L.l, isLst_of L, n1]
        exact fin _ _ _ _ _ (by simp [Pl.logRow, LRow.d, ep, ea]; rfl)
      | some k =>
        have hrow := Pl.row_at (hat r hr k ea)
        simp [L.l, isLst_of L, n1, hrow]
        exact fin _ _ _ _ _ (by simp [Pl.logRow, LRow.d, ep, ea])
    | some x =>
      have tg := tg x ep
      cases ea : r.at_ with
      | none =>
        simp [L.l, isLst_of L, n1, tg]
        exact fin _ _ _ _ _ (by simp [Pl.logRow, LRow.d, ep, ea]; rfl)
      | some k =>
        have hrow := Pl.row_at (hat r hr k ea)
        simp [L.l, isLst_of L, n1, hrow, tg]
        exact fin _ _ _ _ _ (by simp [Pl.logRow, LRow.d, ep, ea])
  · obtain ⟨o9, o10, o11, o12, e, F, L⟩ := (hJ _ _ _).mp Jj
    subst e
    rw [List.length_map, List.take_length] at L
    exact ⟨(LR.keep F (by simpa using Ne.symm fR)).i, q _ _ _ _ _ F L⟩
end
end MP

/-! text SP18 -/
set_option Elab.async false
set_option linter.all false
set_option maxRecDepth 100000
set_option maxHeartbeats 4000000
namespace MP
open PySem PySem.Spec PyProof.Rows
open L2 hiding St
section
variable {p : Pl} {h : Hs} {Q : QE}
theorem lead_at {x : Part} (hx : x.ord < p.orders.length) : ∃ o, p.orders[x.ord]? = some o ∧ o.lead = p.leadOf x := by
  refine ⟨_, List.getElem?_eq_getElem hx, ?_⟩
  unfold Pl.leadOf
  rw [List.getElem?_eq_getElem hx]
  rfl
theorem inside_parts {s : Sta} {gb qb : Nat} (hs : StaOk p s gb qb) (ht : StaT Tagged s) : ∀ x ∈ s.inside, x.ord < p.orders.length ∧ Tagged x.tag := by
  intro x hx
  unfold Sta.inside at hx
  rcases List.mem_append.mp hx with hx | hx
  · rcases List.mem_append.mp hx with hx | hx
    · exact ⟨(hs.gate x hx).ord, ht.gate x hx⟩
    · obtain ⟨q, hq, hx⟩ := List.mem_flatten.mp hx
      exact ⟨((hs.part q hq).1 x hx).ord, ht.que q hq x hx⟩
  · obtain ⟨b, hb, e⟩ := List.mem_filterMap.mp hx
    cases hh : b.hold with
    | none => rw [hh] at e; cases e
    | some xk =>
      obtain ⟨y, k⟩ := xk
      rw [hh] at e
      cases e
      have := (hs.hold b hb).1
      rw [hh] at this
      exact ⟨this.1, ht.bay b hb _ _ hh⟩
theorem log_ok {said : List Str} (hp : PlOk p) (C : CourseOk p said) (q : ∀ f h', Fm [] h h' → h.length ≤ f → Ls h' f ((p.logAll said).found.map LRow.d) → Q (.loc f) h') : wF F_law_log [p.d, .tup (said.map D.str)] h Q := by
  have n26 := hp.len
  have o100 := hp.olen
  have c40 := C.len
  unfold F_law_log
  refine wF_runK ?_
  unfold S_law_log
  simp
  refine start_ok hp fun h1 f1 => ?_
  refine ⟨by omega, ?_⟩
  have f2 : Fm [] h1 (h1 ++ [.lst []]) := (Fm.refl _ _).app _
  have L0 := Ls.new h1 []
  have e1 := f1.len
  obtain ⟨f, ef⟩ : ∃ f, f = h1.length := ⟨_, rfl⟩
  rw [← ef] at L0 ⊢
  generalize h1 ++ [AO.lst []] = h2 at *
  unfold rangeD
  simp
  obtain ⟨J, hJ⟩ : ∃ J : Nat → Rho → Hs → Prop, ∀ i ρ hx, J i ρ hx ↔ ∃ o2 o6 o7 o8 o9 o10 o11 o12, ρ = [some p.d, some (.tup (said.map D.str)), o2, some (p.logAll (said.take i)).st.d, some (.loc f), some (.int (p.logAll (said.take i)).coming), o6, o7, o8, o9, o10, o11, o12, none, none] ∧ Fm [] h hx ∧ Ls hx f ((p.logAll (said.take i)).found.map LRow.d) := ⟨_, fun _ _ _ => Iff.rfl⟩
  refine wFor_inv J ((hJ _ _ _).mpr ⟨none, none, none, none, none, none, none, none, rfl, f1.trans f2, L0⟩) (fun i x ρ hx hi Ji => ?_) (fun ρ hx Ji => ?_)
  · obtain ⟨o2, o6, o7, o8, o9, o10, o11, o12, e, F, L⟩ := (hJ _ _ _).mp Ji
    subst e
    obtain ⟨hi1, rfl⟩ := range_at hi
    obtain ⟨w, hw⟩ : ∃ w, said[i]? = some w := ⟨_, List.getElem?_eq_getElem hi1⟩
    have tl : (said.take i).length = i := by simp; omega
    have lo := logOk_all hp i (said.take i) tl (by omega)
    have lo2 := logOk_step (w := w) hp lo (by omega)
    have et : said.take (i + 1) = said.take i ++ [w] := by rw [List.take_add_one, hw]; rfl
    have en : p.logAll (said.take (i + 1)) = p.logStep (p.logAll (said.take i)) w := by rw [et, logAll_snoc]
    have hop := C.open_ i w hw
    rw [← lo.er] at hop
    have li : (p.logAll (said.take i)).i = i := by rw [lo.i, tl]
    generalize hL : p.logAll (said.take i) = l at *
    have c100 := coming_len p l.st.phase
    refine ⟨trivial, ?_⟩
    simp
    refine wLc_pureM (fun o : Order => decide (o.phase = l.st.phase)) (fun o => o.d) (by simp; omega) (fun _ _ => trivial) (fun o h3 ho f3 => by simp) (fun h3 f3 L3 => ?_)
    have cc := coming_count p l.st.phase
    simp [L3.i, hw]
    rw [cc]
    refine ⟨by omega, ?_⟩
    unfold rangeD
    simp
    refine wLc_mapM (dec := fun (k : Nat) => D.int k) (fun k : Nat => D.tup [.int (l.coming + k)]) (by simp; omega) (fun _ _ => trivial) (fun k h4 hk f4 => by simp) (fun h4 f4 L4 => ?_)
    have etg : D.tup ((List.range (p.coming l.st.phase).length).map fun (k : Nat) => D.tup [.int (l.coming + k)]) = tagsD (p.tagsAt l.st l.coming) := by
      unfold tagsD Pl.tagsAt
      rw [List.map_map]; rfl
    simp [L4.i, etg]
    refine moment_ok hp lo.st (.inr (tagsAt_len _ _)) (fun k b hb => back_of hp hop k b hb (mo2_lt hp lo.st hb)) (by omega) (by omega) fun R h5 f5 hR LR => ?_
    have F5 := (f3.trans f4).trans f5
    have Lf5 := L.keep0 F5
    simp
    have tlen := told_len hp lo.st (word := w) (tags := p.tagsAt l.st l.coming)
    have flen := lo.len
    have fR : f ≠ R := by have := L.lt; have := f3.len; have := f4.len; omega
    refine ⟨_, LR.i, ?_⟩
    refine log_rows (i := i) (st := p.next l.st w (p.tagsAt l.st l.coming)) hp (told_tag lo.tag (fresh_tag lo.one)) (told_at hp lo.st) Lf5 LR fR (by omega) fun h6 o9 o10 o11 o12 f6 L6 => ?_
    have st2 : StaOk p (p.next l.st w (p.tagsAt l.st l.coming)) _ _ := lo2.st
    have tg2 : StaT Tagged (p.next l.st w (p.tagsAt l.st l.coming)) := lo2.tag
    have ins := inside_parts st2 tg2
    have cn2 : (p.next l.st w (p.tagsAt l.st l.coming)).inside.length ≤ 4000 := by rw [inside_cnt]; have h := lo2.cnt; rw [List.length_append, tl] at h; have h : (p.next l.st w (p.tagsAt l.st l.coming)).cnt ≤ 100 * (i + 1) := h; omega
    simp
    refine inside_okD (by rw [st2.bl]; omega) (by rw [st2.ql]; omega) (fun q hq => by have := (st2.part q hq).2; rw [List.length_append, tl] at this; simp at this; omega) (by have := st2.glen; rw [List.length_append, tl] at this; simp at this; omega) fun g h7 f7 L7 => ?_
    generalize hS : p.next l.st w (p.tagsAt l.st l.coming) = S at *
    have Lf7 := L6.keep0 f7
    have F6 : Fm [] h h6 := (F.trans F5).then1 f6 (.inr (by omega))
    have F7 := F6.trans f7
    simp [L7.i]
    refine wLc_pureM (fun x : Part => decide (x.age = p.leadOf x)) (fun x => pairD (tagN x, x.age)) (by simp; omega) (fun h' f' => (L7.keep0 f').i) (fun x h8 hx f8 => ?_) (fun h8 f8 L8 => ?_)
    · obtain ⟨i1, n, en, _⟩ := ins x hx
      obtain ⟨o, ho, eo⟩ := lead_at (p := p) i1
      have tg : ixO x.d (.int 4) h8 = some (.int (tagN x), h8) := by
        unfold Part.d tagN
        simp [en]
      simp [ho, eo, tg, pairD]
    have L8' : itemsAt h8 h7.length = some (((S.inside.filter fun x => decide (x.age = p.leadOf x)).map fun x => (tagN x, x.age)).map pairD) := by rw [List.map_map]; exact L8.i
    refine wsort_pairs L8' fun h9 f9 L9 => ?_
    have L9 : Ls h9 h8.length ((p.lates S).map pairD) := L9
    have ll := lates_len (p := p) S
    rw [inside_cnt] at cn2
    have Lf9 := (Lf7.keep0 f8).keep0 f9
    refine ⟨isLst_of Lf9, ?_⟩
    simp [L9.i]
    refine wLc_mapM (fun q : Int × Int => (lateRow i q).d) (by simp; omega) (fun h' f' => (L9.keep0 f').i) (fun q h10 hq f10 => by simp [pairD, lateRow, LRow.d]; rfl) (fun h10 f10 L10 => ?_)
    have Lf10 := Lf9.keep0 f10
    have n1 : (l.found ++ (p.told l.st w (p.tagsAt l.st l.coming)).map (p.logRow i)).length + (p.lates S).length ≤ 16777216 := by
      simp only [List.length_append, List.length_map]
      omega
    have ef2 : (p.logStep l w).found = (l.found ++ (p.told l.st w (p.tagsAt l.st l.coming)).map (p.logRow i)) ++ (p.lates S).map (lateRow i) := by
      rw [← hS, ← li]; rfl
    have es2 : (p.logStep l w).st = S := hS
    have ec2 : (p.logStep l w).coming = l.coming + ((p.coming l.st.phase).length : Int) := rfl
    generalize l.found ++ (p.told l.st w (p.tagsAt l.st l.coming)).map (p.logRow i) = pre at *
    simp [Lf10.l, isLst_of Lf10, L10.l, isLst_of L10, n1]
    refine (hJ _ _ _).mpr ⟨_, _, _, _, _, _, _, _, by rw [en, es2, ec2], ((((F7.trans f8).trans f9).trans f10)).set _ (.inr (by omega)), ?_⟩
    rw [en, ef2]
    simpa [Function.comp_def] using Lf10.set (pre.map LRow.d ++ (p.lates S).map fun q => (lateRow i q).d)
  · obtain ⟨o2, o6, o7, o8, o9, o10, o11, o12, e, F, L⟩ := (hJ _ _ _).mp Ji
    subst e
    rw [List.length_map, List.length_range, List.take_length] at L
    refine ⟨trivial, ?_⟩
    simp
    exact q f hx F (by omega) L
end
end MP

/-! text SP19 -/
set_option Elab.async false
set_option linter.all false
set_option maxRecDepth 100000
set_option maxHeartbeats 4000000
namespace MP
open PySem PySem.Spec PyProof.Rows
open L2 hiding St
section
variable {h : Hs} {Q : QE}
theorem lines_ok {r : Nat} (w : Rw r h) (q : ∀ (p : Pl) (said : List Str) f h', PlOk p → 1 ≤ p.often → CourseOk p said → said.length ≤ 16 → Gr r h h' → h.length ≤ f → Ls h' f ((p.logAll said).found.map LRow.d) → Q (.tup [p.d, .tup (said.map D.str), .loc f]) h') : wF F_law_lines [.loc r] h Q := by
  have hr := w.lt
  unfold F_law_lines
  refine wF_runK ?_
  unfold S_law_lines
  simp
  refine small_ok w fun p h1 hp g1 => ?_
  have kl := hp.klen
  simp
  refine wLc_mapM (fun x : Route => .str x.name) (by simp; omega) (fun _ _ => trivial) (fun x h2 hx f2 => by simp) (fun h2 f2 L2 => ?_)
  have G2 := g1.keep f2
  have L2 : Ls h2 h1.length ((p.routes.map Route.name).map D.str) := by rw [List.map_map]; exact L2
  have e1 := g1.fm.len
  obtain ⟨K, eK⟩ : ∃ K, K = h1.length := ⟨_, rfl⟩
  rw [← eK] at L2
  simp only [← eK]
  have Kr : K ≠ r := by omega
  refine taken_ok G2.rw (by omega) (by omega) fun n h3 n0 n1 g3 => ?_
  have G3 := G2.trans g3
  have L3 := L2.keep g3.fm (by simpa using Kr)
  simp
  refine ⟨by omega, ?_⟩
  have hpd := hp.period
  unfold rangeD
  refine wLc_draw (P := fun (_ : Nat) (o : Order) => OrderOk p.period (p.routes.map Route.name) o) (enc := Order.d) g3.rw (by simp; omega) (fun h' g => trivial) (fun x h4 hx g4 => ?_) (fun os h4 g4 L4 hl hpos => ?_)
  · simp
    refine ⟨Gr.refl g4.rw, ?_⟩
    refine taken_ok g4.rw (by omega) (by omega) fun ph h5 p0 p1 g5 => ?_
    refine pick_ok g5.rw ((L3.keep g4.fm (by simpa using Kr)).keep g5.fm (by simpa using Kr)).i (by have := hp.kne; simpa using this) (by simp; omega) (fun d h6 hd g6 => ?_) Kr
    obtain ⟨kd, hkd, rfl⟩ := List.mem_map.mp hd
    refine taken_ok g6.rw (by omega) (by omega) fun ld h7 l0 l1 g7 => ?_
    simp
    exact ⟨⟨ph, kd, 1 + ld⟩, rfl, ⟨⟨p0, p1⟩, hkd, by simp; omega⟩, (g5.trans g6).trans g7⟩
  have G4 := G3.trans g4
  have oos : ∀ o ∈ os, OrderOk p.period (p.routes.map Route.name) o := by
    intro o ho
    obtain ⟨i, hi⟩ := List.getElem?_of_mem ho
    have hi' := (List.getElem?_eq_some_iff.mp hi).1
    exact hpos i i o (by rw [List.getElem?_range (by simp at hl; omega)]) hi
  simp [L4.i]
  refine pickN_ok [1, 2, 3] 1 3 g4.rw (by decide) (by decide) (by decide) fun often h5 _ a1 a3 g5 => ?_
  have G5 := G4.trans g5
  refine taken_ok g5.rw (by omega) (by omega) fun most h6 b0 b1 g6 => ?_
  have G6 := G5.trans g6
  have ep : D.tup [.tup (p.rows.map Stn.d), .tup (p.routes.map Route.d), .int p.period, .tup (os.map Order.d), .tup (p.setups.map Setup.d), .tup [.int often, .int p.apart], .int most] = ({ p with orders := os, often := often, most := most } : Pl).d := rfl
  have hp2 : PlOk { p with orders := os, often := often, most := most } := {
    ne := hp.ne
    len := hp.len
    nd := hp.nd
    row := hp.row
    kne := hp.kne
    klen := hp.klen
    knd := hp.knd
    route := hp.route
    period := hp.period
    olen := by show os.length ≤ 5; simp at hl; omega
    order := oos
    slen := hp.slen
    setup := hp.setup
    often := ⟨by show 0 ≤ often; omega, a3⟩
    apart := hp.apart
    most := ⟨b0, by show most ≤ 2; omega⟩
    asc := hp.asc }
  rw [ep]
  have oft : 1 ≤ ({ p with orders := os, often := often, most := most } : Pl).often := a1
  generalize ({ p with orders := os, often := often, most := most } : Pl) = p2 at *
  refine pickN_ok [0, 4, 8, 12, 16] 0 16 g6.rw (by decide) (by decide) (by decide) fun many h7 _ c0 c1 g7 => ?_
  have G7 := G6.trans g7
  refine walk_ok hp2 g7.rw c0 (by omega) fun said S h8 g8 C hl8 LS => ?_
  have G8 := G7.trans g8
  simp
  refine log_ok hp2 C fun f h9 f9 hf L9 => ?_
  have e8 := G8.fm.len
  exact q p2 said f h9 hp2 oft C (by omega) (G8.keep f9) (by omega) L9
theorem tickets_ok {n : Nat} {rows : List LRow} (L : Ls h n (rows.map LRow.d)) (hl : rows.length ≤ 10000000) (q : ∀ f h', Fm [] h h' → Ls h' f ((sortI ((rows.filter fun r => decide (r.word = Str.ofString "came")).map LRow.tick)).map D.int) → Q (.loc f) h') : wF F_law_tickets [.loc n] h Q := by
  unfold F_law_tickets
  refine wF_runK ?_
  unfold S_law_tickets
  simp [L.i]
  refine wLc_pureM (fun r : LRow => decide (r.word = Str.ofString "came")) (fun r => .int r.tick) (by simp; omega) (fun h' f' => (L.keep0 f').i) (fun r h1 hx f => by simp [LRow.d]) (fun h1 f1 L1 => ?_)
  have L1 : itemsAt h1 h.length = some (((rows.filter fun r => decide (r.word = Str.ofString "came")).map LRow.tick).map D.int) := by rw [List.map_map]; exact L1.i
  refine wsort_ints L1 fun h2 f2 L2 => ?_
  exact q _ h2 (f1.trans f2) L2
end
end MP

/-! text SP20 -/
set_option Elab.async false
set_option linter.all false
set_option maxRecDepth 100000
set_option maxHeartbeats 4000000
namespace MP
open PySem PySem.Spec PyProof.Rows
open L2 hiding St
/-! ### alike things -/
def okA : Nat → D → Bool
  | _, .non => true
  | _, .bl _ => true
  | _, .int _ => true
  | _, .str _ => true
  | n + 1, .tup xs => decide (xs.length ≤ 1000000) && xs.all (okA n)
  | _, _ => false
theorem alike_ok : ∀ (n : Nat) (d : D) (h : Hs) (Q : QE), okA n d = true → (∀ h', Fm [] h h' → Q (.bl true) h') → wF (F_law_alike_at (n + 1)) [d, d] h Q := by
  intro n
  induction n with
  | zero =>
    intro d h Q hd q
    unfold F_law_alike_at
    refine wF_runK ?_
    unfold S_law_alike
    cases d with
    | tup xs => cases hd
    | loc l => cases hd
    | gl a => cases hd
    | ty a => cases hd
    | non => simp; exact q h (Fm.refl _ _)
    | bl b => simp; exact q h (Fm.refl _ _)
    | int b => simp; exact q h (Fm.refl _ _)
    | str b => simp; exact q h (Fm.refl _ _)
  | succ n ih =>
    intro d h Q hd q
    unfold F_law_alike_at
    refine wF_runK ?_
    unfold S_law_alike
    cases d with
    | loc l => cases hd
    | gl a => cases hd
    | ty a => cases hd
    | non => simp; exact q h (Fm.refl _ _)
    | bl b => simp; exact q h (Fm.refl _ _)
    | int b => simp; exact q h (Fm.refl _ _)
    | str b => simp; exact q h (Fm.refl _ _)
    | tup xs =>
      have hd : (decide (xs.length ≤ 1000000) && xs.all (okA n)) = true := hd
      rw [Bool.and_eq_true] at hd
      have hl := of_decide_eq_true hd.1
      have ha := List.all_eq_true.mp hd.2
      simp
      refine ⟨by omega, ?_⟩
      unfold rangeD
      simp
      refine wLc_pureM (dec := fun (k : Nat) => D.int k) (fun _ => false) (fun k => .int k) (by simp; omega) (fun _ _ => trivial) (fun k h1 hk f => ?_) (fun h1 f1 L1 => ?_)
      · have hk : k < xs.length := by simpa using hk
        have ex : xs[k]? = some xs[k] := List.getElem?_eq_getElem hk
        simp [ex]
        refine ih _ _ _ (ha _ (List.getElem_mem hk)) fun h2 f2 => ?_
        simpa using f2
      · have e0 : ((List.range xs.length).filter fun _ => false).map (fun (k : Nat) => D.int k) = [] := by
          rw [List.filter_eq_nil_iff.mpr (by simp)]; rfl
        rw [e0] at L1
        have e := eqo_nilL (h := h1 ++ [.lst []]) (n := 1) (L1.app [.lst []]).i (Ls.new h1 []).i (by omega) rfl
        simp only [wO_some, e]
        simp
        exact q _ (f1.app _)
/-! ### a log's rows are right -/
def WORDS : List Str := [Str.ofString "struck", Str.ofString "came", Str.ofString "queued", Str.ofString "changed", Str.ofString "took", Str.ofString "finished", Str.ofString "spoiled", Str.ofString "done", Str.ofString "late"]
structure LWf (r : LRow) : Prop where
  mom : 0 ≤ r.mom ∧ r.mom ≤ 599
  word : r.word ∈ WORDS
  tick : 0 ≤ r.tick
  stn : r.stn.length ≤ 16
section
variable {p : Pl}
theorem told_word {s : Sta} {word : Str} {tags : List Int} : ∀ r ∈ p.told s word tags, r.word ∈ WORDS := by
  intro r hr
  obtain ⟨A, O, e, qA, qO⟩ := told_form (p := p) s word tags
  have hq : ∀ r, quiet r → r.word ∈ WORDS := by
    intro r h
    unfold quiet at h
    unfold WORDS
    simp only [List.mem_cons, List.not_mem_nil, or_false] at h ⊢
    rcases h with h | h | h | h | h <;> simp [h]
  rw [e] at hr
  rcases List.mem_append.mp hr with hr | hr
  · unfold Pl.strikeRows at hr
    split at hr
    · rw [List.mem_singleton.mp hr]; simp [WORDS]
    · cases hr
  · rcases List.mem_append.mp hr with hr | hr
    · exact hq r (qA r hr)
    · rcases List.mem_append.mp hr with hr | hr
      · obtain ⟨k, b, _, _, hr⟩ := mem_workRows.mp hr
        obtain ⟨_, _, x, _, er⟩ := work_row hr
        rw [er]
        show (if _ then _ else _) ∈ WORDS
        split <;> simp [WORDS]
      · exact hq r (qO r hr)
theorem log_wf (hp : PlOk p) : ∀ (n : Nat) (said : List Str), said.length = n → n ≤ 40 → ∀ r ∈ (p.logAll said).found, LWf r := by
  intro n
  induction n with
  | zero =>
    intro said h _ r hr
    rw [List.length_eq_zero_iff.mp h] at hr
    cases hr
  | succ n ih =>
    intro said h hn r hr
    have hne : said ≠ [] := by intro e; subst e; simp at h
    have hl : said.dropLast.length = n := by simp; omega
    have lo := logOk_all hp n said.dropLast hl (by omega)
    have ih := ih said.dropLast hl (by omega)
    rw [← List.dropLast_concat_getLast hne, logAll_snoc] at hr
    generalize p.logAll said.dropLast = l at *
    have li := lo.i
    have hr : r ∈ l.found ++ (p.told l.st (said.getLast hne) (p.tagsAt l.st l.coming)).map (p.logRow l.i) ++ (p.lates (p.next l.st (said.getLast hne) (p.tagsAt l.st l.coming))).map (lateRow l.i) := hr
    rcases List.mem_append.mp hr with hr | hr
    · rcases List.mem_append.mp hr with hr | hr
      · exact ih r hr
      · obtain ⟨t, ht, rfl⟩ := List.mem_map.mp hr
        refine ⟨⟨by show (0 : Int) ≤ l.i; omega, by show (l.i : Int) ≤ 599; omega⟩, told_word t ht, ?_, ?_⟩
        case refine_2 =>
          show ((t.at_.map fun k => (p.row k).name).getD ⟨#[]⟩).length ≤ 16
          cases ea : t.at_ with
          | none => show (Str.mk #[]).length ≤ 16; decide
          | some k => exact Nat.le_trans (names_nm hp (row_name (told_at hp lo.st t ht k ea))).top (by decide)
        show 0 ≤ (t.part.map tagN).getD 0
        cases ep : t.part with
        | none => simp
        | some x =>
          obtain ⟨m, em, hm⟩ := told_tag lo.tag (fresh_tag lo.one) t ht x ep
          simp [tagN, em]; omega
    · obtain ⟨q, hq, rfl⟩ := List.mem_map.mp hr
      refine ⟨⟨by show (0 : Int) ≤ l.i; omega, by show (l.i : Int) ≤ 599; omega⟩, by simp [lateRow, WORDS], ?_, by show (Str.mk #[]).length ≤ 16; decide⟩
      show 0 ≤ q.1
      unfold Pl.lates at hq
      have hq := (List.mergeSort_perm _ leP).mem_iff.mp hq
      obtain ⟨x, hx, rfl⟩ := List.mem_map.mp hq
      have hx := (List.mem_filter.mp hx).1
      have lo2 := logOk_step (w := said.getLast hne) hp lo (by omega)
      obtain ⟨_, m, em, hm⟩ := inside_parts lo2.st lo2.tag x hx
      simp [tagN, em]; omega
end
/-! ### the program's look at a log -/
section
variable {h : Hs} {Q : QE}
theorem is_whole_int {i : Int} (q : Q (.bl true) h) : wF F_is_whole [.int i] h Q := by
  unfold F_is_whole
  refine wF_runK ?_
  unfold S_is_whole
  simpa using q
theorem is_within_int {i a b : Int} (q : Q (.bl (decide (a ≤ i ∧ i ≤ b))) h) : wF F_is_within [.int i, .int a, .int b] h Q := by
  unfold F_is_within
  refine wF_runK ?_
  unfold S_is_within
  simp
  refine is_whole_int ?_
  simp
  split
  · rename_i c; simpa [c] using q
  · rename_i c; simpa [c] using q
theorem is_log_row_ok {r : LRow} (o : LWf r) (q : Q (.bl true) h) : wF F_is_log_row [r.d] h Q := by
  unfold F_is_log_row
  refine wF_runK ?_
  unfold S_is_log_row LRow.d
  simp
  unfold F_is_row
  refine wF_runK ?_
  unfold S_is_row
  simp [c_MOST_MOMENTS]
  refine is_within_int ?_
  have e : decide (0 ≤ r.mom ∧ r.mom ≤ 599) = true := decide_eq_true o.mom
  simp [e]
  have hw : notInO (.str r.word) c_WORDS h = some (.bl false, h) := by
    rw [nin_strs (xs := WORDS) rfl (fun b => by unfold c_WORDS; simp), decide_eq_true o.word]; rfl
  simp [hw]
  refine is_whole_int ?_
  have := o.tick
  simp
  rw [if_neg (by omega)]
  exact is_whole_int q
theorem enum_at {xs : List D} {i : Nat} {y : D} (h : (enumD xs)[i]? = some y) : ∃ x, xs[i]? = some x ∧ y = .tup [.int (i : Nat), x] := by
  have hl := (List.getElem?_eq_some_iff.mp h).1
  rw [enumD_len] at hl
  have e := enumD_get (List.getElem?_eq_getElem hl)
  rw [e] at h
  exact ⟨_, List.getElem?_eq_getElem hl, (Option.some.inj h).symm⟩
theorem require_log_ok {rows : List LRow} (o : ∀ r ∈ rows, LWf r) (q : Q .non h) : wF F_require_log [.tup (rows.map LRow.d)] h Q := by
  unfold F_require_log
  refine wF_runK ?_
  unfold S_require_log
  simp
  obtain ⟨J, hJ⟩ : ∃ J : Nat → Rho → Hs → Prop, ∀ i ρ hx, J i ρ hx ↔ ∃ o1 o2, ρ = [some (.tup (rows.map LRow.d)), o1, o2] ∧ hx = h := ⟨_, fun _ _ _ => Iff.rfl⟩
  refine wFor_inv J ((hJ _ _ _).mpr ⟨none, none, rfl, rfl⟩) (fun i x ρ hx hi Ji => ?_) (fun ρ hx Ji => ?_)
  · obtain ⟨o1, o2, e, eh⟩ := (hJ _ _ _).mp Ji
    subst e; subst eh
    obtain ⟨y, hy, rfl⟩ := enum_at hi
    rw [List.getElem?_map] at hy
    cases er : rows[i]? with
    | none => rw [er] at hy; cases hy
    | some r =>
    rw [er] at hy
    cases hy
    refine ⟨trivial, ?_⟩
    simp
    refine is_log_row_ok (o r (List.mem_of_getElem? er)) ?_
    simp
    exact (hJ _ _ _).mpr ⟨_, _, rfl, rfl⟩
  · obtain ⟨o1, o2, e, eh⟩ := (hJ _ _ _).mp Ji
    subst e; subst eh
    refine ⟨trivial, ?_⟩
    simpa using q
theorem tickets_in_ok {rows : List LRow} (o : ∀ r ∈ rows, LWf r) (hl : rows.length ≤ 10000000) (q : ∀ h', Fm [] h h' → Q (.tup ((sortI ((rows.filter fun r => decide (r.word = Str.ofString "came")).map LRow.tick)).map D.int)) h') : wF F_tickets_in [.tup (rows.map LRow.d)] h Q := by
  unfold F_tickets_in
  refine wF_runK ?_
  unfold S_tickets_in
  simp
  refine require_log_ok o ?_
  refine wLc_pureM (fun r : LRow => decide (r.word = Str.ofString "came")) (fun r => .int r.tick) (by simp; omega) (fun h' f' => trivial) (fun r h1 hx f => by simp [LRow.d]) (fun h1 f1 L1 => ?_)
  have L1 : itemsAt h1 h.length = some (((rows.filter fun r => decide (r.word = Str.ofString "came")).map LRow.tick).map D.int) := by rw [List.map_map]; exact L1.i
  refine wsort_ints L1 fun h2 f2 L2 => ?_
  simp [L2.i]
  exact q h2 (f1.trans f2)
end
end MP

/-! text SK1 -/
set_option Elab.async false
set_option linter.all false
set_option maxRecDepth 100000
set_option maxHeartbeats 4000000
namespace MP
open PySem PySem.Spec PyProof.Rows
open L2 hiding St
/-! ### the program's looks at names, rows, numbers -/
section
variable {h : Hs} {Q : QE}
theorem is_row_tup {xs : List D} {n : Int} (q : Q (.bl (decide ((xs.length : Int) = n))) h) : wF F_is_row [.tup xs, .int n] h Q := by
  unfold F_is_row
  refine wF_runK ?_
  unfold S_is_row
  simpa using q
/-- a name of at most eight letters -/
structure Nm8 (x : Str) : Prop where
  ltr : Ltr x
  pos : 1 ≤ x.length
  top : x.length ≤ 8
theorem letters_mem : ∀ c : Nat, 97 ≤ c → c < 123 → c ∈ (Str.ofString "abcdefghijklmnopqrstuvwxyz").cps.toList := by
  intro c h1 h2
  have : ∀ k : Fin 26, (k : Nat) + 97 ∈ (Str.ofString "abcdefghijklmnopqrstuvwxyz").cps.toList := by decide +kernel
  have := this ⟨c - 97, by omega⟩
  have e : c - 97 + 97 = c := by omega
  rwa [e] at this
theorem asBls_true {α : Type} : ∀ xs : List α, asBls (xs.map fun _ => D.bl true) = some (xs.map fun _ => true)
  | [] => rfl
  | a :: r => by
    show (asBls (r.map fun _ => D.bl true)).map _ = _
    rw [asBls_true r]
    rfl
theorem all_true {α : Type} {xs : List α} {h1 : Hs} {n : Nat} (L : Ls h1 n (xs.map fun _ => D.bl true)) : allN [.loc n] h1 = some (.bl true, h1) := by
  have e : D.atItems h1 (.loc n) = some (xs.map fun _ => D.bl true) := L.i
  unfold allN
  dsimp only
  rw [e]
  dsimp only [Option.bind_some]
  rw [asBls_true]
  simp
theorem is_name_ok {x : Str} (o : Nm8 x) (q : ∀ h', Fm [] h h' → Q (.bl true) h') : wF F_is_name [.str x] h Q := by
  have hl := o.pos
  have ht := o.top
  have ec : x.cps.toList.length = x.length := by simp [Str.length]
  unfold F_is_name
  refine wF_runK ?_
  unfold S_is_name
  have h1 : x.length ≤ 16777216 := by omega
  have h2 : (1 : Int) ≤ (x.length : Int) := by omega
  have h3 : (x.length : Int) ≤ 8 := by omega
  simp [c_LONGEST, h1, h2, h3, leO]
  refine wLc_mapM (dec := fun c : Nat => D.str ⟨#[c]⟩) (fun _ => D.bl true) (by rw [ec]; exact Nat.lt_of_le_of_lt ht (by decide)) (fun _ _ => trivial) (fun c h1 hc f => ?_) (fun h1 f1 L1 => ?_)
  · have hm := letters_mem c (o.ltr c hc).1 (o.ltr c hc).2
    simp [c_LETTERS, inO, inD]
    simpa using hm
  · have e := all_true (xs := x.cps.toList) L1
    rw [e]
    simp
    exact q h1 f1
/-- a name that is none of the rows' -/
theorem is_new_ok {α : Type} {enc : α → D} {nm : α → Str} {name : Str} {as : List α} (hl : as.length < 100000) (he : ∀ a ∈ as, ∃ r, enc a = .tup (.str (nm a) :: r)) (hn : name ∉ as.map nm) (q : ∀ h', Fm [] h h' → Q (.bl true) h') : wF F_is_new [.str name, .tup (as.map enc)] h Q := by
  unfold F_is_new
  refine wF_runK ?_
  unfold S_is_new
  simp
  refine wLc_mapM (fun a => D.str (nm a)) (Nat.lt_of_lt_of_le hl (by decide)) (fun _ _ => trivial) (fun a h1 ha f => ?_) (fun h1 f1 L1 => ?_)
  · obtain ⟨r, er⟩ := he a ha
    have e0 : ixN (r.length + 1) 0 = some 0 := by simp [ixN]
    simp [er, ixO, seqAt, L2.atI, e0]
  · rw [nin_strs (xs := as.map nm) (by rw [List.map_map]; exact L1.i) (fun b => by simp)]
    rw [decide_eq_false hn]
    simp
    exact q h1 f1
end
end MP

/-! text SK2 -/
set_option Elab.async false
set_option linter.all false
set_option maxRecDepth 100000
set_option maxHeartbeats 4000000
namespace MP
open PySem PySem.Spec PyProof.Rows
open L2 hiding St
/-! ### rows of stations, orders; bounds -/
section
variable {h : Hs} {Q : QE}
/-- .. that a plan takes -/
structure StnV (x : Stn) : Prop where
  ok : StnOk x
  nm : Nm8 x.name
  zero : x.life = 0 → x.change = 0
theorem station_row_ok {x : Stn} {ahead : List Stn} (o : StnV x) (hn : x.name ∉ ahead.map Stn.name) (hl : ahead.length < 100000) (q : ∀ h', Fm [] h h' → Q (.bl true) h') : wF F_is_station_row [x.d, .tup (ahead.map Stn.d)] h Q := by
  have o1 := o.ok.room
  have o2 := o.ok.life
  have o3 := o.ok.change
  have o4 := o.ok.repair
  have o5 := o.zero
  unfold F_is_station_row
  refine wF_runK ?_
  unfold S_is_station_row
  simp [Stn.d]
  refine is_row_tup ?_
  simp
  refine is_name_ok o.nm fun h1 f1 => ?_
  simp
  refine is_new_ok (nm := Stn.name) hl (fun a _ => ⟨_, rfl⟩) hn fun h2 f2 => ?_
  simp [c_MOST_ROOM]
  refine is_within_int ?_
  simp [c_MOST_LIFE, o1]
  refine is_within_int ?_
  simp [c_MOST_CHANGE, o2]
  refine is_within_int ?_
  simp [c_MOST_REPAIR, o3]
  refine is_within_int ?_
  simp [o4]
  have F : Fm [] h h2 := f1.trans f2
  by_cases hp : 0 < x.life
  · rw [if_pos hp, decide_eq_true hp]
    exact q h2 F
  · rw [if_neg hp, decide_eq_true (o5 (by omega))]
    exact q h2 F
theorem is_bound_ok {a b : Int} (ha : 0 ≤ a ∧ a ≤ 3) (hb : 1 ≤ b ∧ b ≤ 8) (q : Q (.bl true) h) : wF F_is_bound [.tup [.int a, .int b]] h Q := by
  unfold F_is_bound
  refine wF_runK ?_
  unfold S_is_bound
  simp
  refine is_row_tup ?_
  simp [c_MOST_FAULTS]
  refine is_within_int ?_
  simp [c_MOST_WINDOW, ha]
  refine is_within_int ?_
  simpa [hb] using q
structure OrdV (period : Int) (kinds : List Str) (x : Order) : Prop where
  phase : 0 ≤ x.phase ∧ x.phase < period
  kind : x.kind ∈ kinds
  nm : Nm8 x.kind
  lead : 1 ≤ x.lead ∧ x.lead ≤ 30
theorem order_row_ok {x : Order} {period : Int} {n : Nat} {kinds : List Str} (o : OrdV period kinds x) (L : Ls h n (kinds.map D.str)) (q : ∀ h', Fm [] h h' → Q (.bl true) h') : wF F_is_order_row [x.d, .loc n, .int period] h Q := by
  have o1 := o.phase
  have o2 := o.lead
  unfold F_is_order_row
  refine wF_runK ?_
  unfold S_is_order_row
  simp [Order.d]
  refine is_row_tup ?_
  simp
  refine is_within_int ?_
  have e1 : decide (0 ≤ x.phase ∧ x.phase ≤ period - 1) = true := decide_eq_true ⟨o1.1, by omega⟩
  simp [e1]
  refine is_name_ok o.nm fun h1 f1 => ?_
  have e2 : inO (.str x.kind) (.loc n) h1 = some (.bl true, h1) := by
    rw [in_strs (xs := kinds) (y := .loc n) (show seqAt h1 (.loc n) = _ from (L.keep0 f1).i) (fun b => by simp), decide_eq_true o.kind]
  simp [e2, c_MOST_LEAD]
  refine is_within_int ?_
  simpa [o2] using q h1 f1
end
end MP

/-! text SK3 -/
set_option Elab.async false
set_option linter.all false
set_option maxRecDepth 100000
set_option maxHeartbeats 4000000
namespace MP
open PySem PySem.Spec PyProof.Rows
open L2 hiding St
/-! ### steps, rows of kinds -/
@[simp] theorem ixD_tup (xs : List D) (y : D) (h : Hs) : ixD (.tup xs) y h = ixO (.tup xs) y h := rfl
section
variable {h : Hs} {Q : QE}
theorem step_row_ok {y : Stp1} {place : Nat} {n : Nat} {kvs : List (Key × D)} {life : Int} (hd : h[n]? = some (.dK kvs)) (hv : valD kvs (.inr y.at_) = some (.int life)) (nm : Nm8 y.at_) (hw : 1 ≤ y.work ∧ y.work ≤ 4) (hl : life = 0 ∨ y.work ≤ life)
    (hb : ∀ b, y.back = some b → b ≤ place) (q : ∀ h', Fm [] h h' → Q (.bl true) h') : wF F_is_step [y.d, .int place, .loc n] h Q := by
  unfold F_is_step
  refine wF_runK ?_
  unfold S_is_step
  simp [Stp1.d]
  refine is_row_tup ?_
  simp
  refine is_name_ok nm fun h1 f1 => ?_
  have hd1 : dkAt h1 (.loc n) = some (n, kvs) := by rw [dkAt_loc, f1.get0 hd]
  have e1 : notInDk (.str y.at_) (.loc n) h1 = some (.bl false, h1) := by rw [notInDk_dk hd1 (k := .inr y.at_) rfl, hv]; rfl
  have e2 : ixD (.loc n) (.str y.at_) h1 = some (.int life, h1) := by
    unfold ixD
    rw [hd1]
    dsimp only [keyOf, Option.bind_some]
    rw [hv]
    rfl
  simp [e1, c_MOST_WORK]
  refine is_within_int ?_
  simp [hw, e2]
  have fin : (if y.back = none then Q (D.bl y.back.isNone) h1 else wF F_is_within [optN y.back, D.int 0, D.int ↑place] h1 fun d h1 => Q d h1) := by
    cases hk : y.back with
    | none => simpa using q h1 f1
    | some b =>
      have := hb b hk
      simp [optN]
      refine is_within_int ?_
      have e : decide ((0 : Int) ≤ (b : Int) ∧ (b : Int) ≤ (place : Int)) = true := decide_eq_true ⟨by omega, by omega⟩
      rw [e]
      exact q h1 f1
  by_cases hp : 0 < life
  · rw [if_pos hp, if_neg (by omega)]
    exact fin
  · rw [if_neg hp]
    exact fin
/-- a kind's row that a plan takes -/
structure RouV (kvs : List (Key × D)) (x : Route) : Prop where
  nm : Nm8 x.name
  len : 1 ≤ x.steps.length ∧ x.steps.length ≤ 5
  step : ∀ (k : Nat) (y : Stp1), x.steps[k]? = some y → Nm8 y.at_ ∧ (∃ life : Int, valD kvs (.inr y.at_) = some (.int life) ∧ (life = 0 ∨ y.work ≤ life)) ∧ (1 ≤ y.work ∧ y.work ≤ 4) ∧ ∀ b, y.back = some b → b ≤ k
theorem kind_row_ok {x : Route} {ahead : List Route} {n : Nat} {kvs : List (Key × D)} (hd : h[n]? = some (.dK kvs)) (o : RouV kvs x) (hn : x.name ∉ ahead.map Route.name) (hl : ahead.length < 100000) (q : ∀ h', Fm [] h h' → Q (.bl true) h') : wF F_is_kind_row [x.d, .tup (ahead.map Route.d), .loc n] h Q := by
  have o1 := o.len
  unfold F_is_kind_row
  refine wF_runK ?_
  unfold S_is_kind_row
  simp [Route.d]
  refine is_row_tup ?_
  simp
  refine is_name_ok o.nm fun h1 f1 => ?_
  simp
  refine is_new_ok (nm := Route.name) hl (fun a _ => ⟨_, rfl⟩) hn fun h2 f2 => ?_
  simp [c_MOST_STEPS]
  rw [if_pos (by omega), if_pos (by omega)]
  refine wLc_pure (fun _ => true) (fun _ => D.bl true) (by rw [enumD_len, List.length_map]; exact Nat.lt_of_le_of_lt o1.2 (by decide)) (fun _ _ => trivial) (fun z h3 hz f3 => ?_) (fun h3 f3 L3 => ?_)
  · obtain ⟨i, hi⟩ := List.mem_iff_getElem?.mp hz
    obtain ⟨d, e1, rfl⟩ := enum_at hi
    rw [List.getElem?_map] at e1
    cases ey : x.steps[i]? with
    | none => rw [ey] at e1; cases e1
    | some y =>
      rw [ey] at e1
      cases e1
      obtain ⟨a1, ⟨life, a2, a3⟩, a4, a5⟩ := o.step i y ey
      simp
      exact step_row_ok ((f1.trans f2).trans f3 |>.get0 hd) a2 a1 a4 a3 a5 fun h4 f4 => ⟨rfl, f4⟩
  · have L3' : Ls h3 h2.length ((enumD (x.steps.map Stp1.d)).map fun _ => D.bl true) := by
      rw [List.filter_eq_self.mpr (by simp)] at L3
      exact L3
    rw [all_true L3']
    simp
    exact q h3 ((f1.trans f2).trans f3)
end
end MP

/-! text SK5 -/
set_option Elab.async false
set_option linter.all false
set_option maxRecDepth 100000
set_option maxHeartbeats 4000000
namespace MP
open PySem PySem.Spec PyProof.Rows
open L2 hiding St
/-! ### first_wrong -/
/-- what a judge gives -/
def wJ (n : Nat) (V : List ((Str × Nat) × ON)) (L : LamT → Nat → Option ON) (jd : D) (ds : List D) (h : Hs) (Q : QE) : Prop := match jd with
  | .gl y => ∃ F, V.lookup (y, n) = some F ∧ wF F ds h Q
  | .loc m => (∃ t ws, h[m]? = some (.clo t ws)) ∧ wO (callC n L m ds h) Q
  | _ => False
theorem wE_CallVJ {n i : Nat} {V : List ((Str × Nat) × ON)} {L : LamT → Nat → Option ON} {jd : D} {ma : AM} {ρ : Rho} {h : Hs} {ds : List D} {Q : QE} (hi : ρ[i]? = some (some jd)) (ha : ma ρ h = some (ds, h)) (hn : ds.length = n) (w : wJ n V L jd ds h Q) : wE (mCallV n V L i ma) ρ h Q := by
  cases jd with
  | gl y =>
    obtain ⟨F, hF, w⟩ := w
    rw [wE_CallV_gl hi hF]
    exact ⟨ds, h, ha, hn, w⟩
  | loc m =>
    obtain ⟨⟨t, ws, hm⟩, w⟩ := w
    rw [wE_CallV_clo hi hm]
    exact ⟨ds, h, ha, hn, w⟩
  | _ => exact w.elim
section
variable {h : Hs} {Q : QE}
theorem first_wrong_ok {V : List ((Str × Nat) × ON)} {L : LamT → Nat → Option ON} {rows : List D} {lo hi : Int} {jd : D} (h1 : lo ≤ rows.length) (h2 : (rows.length : Int) ≤ hi) (hs : rows.length ≤ 1000)
    (hJ : ∀ (i : Nat) (row : D) (h1 : Hs), rows[i]? = some row → Fm [] h h1 → wJ 2 V L jd [row, .tup (rows.take i)] h1 (fun d h2 => d = .bl true ∧ Fm [] h1 h2)) (q : ∀ h', Fm [] h h' → Q .non h') : wF (F_first_wrong V L) [.tup rows, .int lo, .int hi, jd] h Q := by
  unfold F_first_wrong
  refine wF_runK ?_
  unfold S_first_wrong
  have e1 : rows.length ≤ 16777216 := by omega
  simp [leO, h1, h2, e1]
  refine wFor_inv (fun i ρ h' => Fm [] h h' ∧ ∃ o4 o5, ρ = [some (.tup rows), some (.int lo), some (.int hi), some jd, o4, o5]) ⟨Fm.refl _ _, _, _, rfl⟩ (fun i z ρ h1 hz hI => ⟨trivial, ?_⟩) (fun ρ h1 hI => ⟨trivial, ?_⟩)
  · obtain ⟨f1, o4, o5, rfl⟩ := hI
    obtain ⟨row, er, rfl⟩ := enum_at hz
    have hlt : i < rows.length := (List.getElem?_eq_some_iff.mp er).1
    simp
    have ha : (aCons (mVar 5) (aCons (mSl (mVar 0) pNo (pInt (mVar 4))) aNil)) [some (D.tup rows), some (D.int lo), some (D.int hi), some jd, some (D.int i), some row] h1 = some ([row, .tup (rows.take i)], h1) := by
      simp [aCons, aNil, mVar, mSl, pNo, pInt, HT.sIx_nat, Nat.min_eq_left (Nat.le_of_lt hlt)]
    refine (wE_CallVJ rfl ha rfl (hJ i row h1 er f1)).imp fun d h2 ⟨ed, f2⟩ => ?_
    subst ed
    simp [truD]
    exact f1.trans f2
  · obtain ⟨f1, o4, o5, rfl⟩ := hI
    simp
    exact q h1 f1
end
end MP

/-! text SK6 -/
set_option Elab.async false
set_option linter.all false
set_option maxRecDepth 100000
set_option maxHeartbeats 400000
namespace MP
open PySem PySem.Spec PyProof.Rows
open L2 hiding St
/-! ### the parts are asked for -/
section
variable {h : Hs} {Q : QE}
theorem require_part_ok {x : Str} (q : Q .non h) : wF F_require_part [.str x, .non] h Q := by
  unfold F_require_part
  refine wF_runK ?_
  unfold S_require_part
  simpa [isNotO, truD] using q
theorem not_ahead {α β : Type} {f : α → β} {rows : List α} (nd : (rows.map f).Nodup) {i : Nat} {x : α} (e : rows[i]? = some x) : f x ∉ (rows.take i).map f := fun hm => by
  obtain ⟨y, hy, ey⟩ := List.mem_map.mp hm
  obtain ⟨j, hj⟩ := List.mem_iff_getElem?.mp hy
  rw [List.getElem?_take] at hj
  split at hj
  · rename_i hlt
    have h1 : (rows.map f)[j]? = some (f y) := by rw [List.getElem?_map, hj]; rfl
    have h2 : (rows.map f)[i]? = some (f x) := by rw [List.getElem?_map, e]; rfl
    obtain ⟨l1, e1⟩ := List.getElem?_eq_some_iff.mp h1
    obtain ⟨l2, e2⟩ := List.getElem?_eq_some_iff.mp h2
    have := (List.getElem_inj nd).mp (e1.trans (ey.trans e2.symm))
    omega
  · cases hj
theorem require_stations_ok {rows : List Stn} (o : ∀ x ∈ rows, StnV x) (nd : (rows.map Stn.name).Nodup) (l1 : 1 ≤ rows.length) (l2 : rows.length ≤ 4) (q : ∀ h', Fm [] h h' → Q .non h') : wF F_require_stations [.tup (rows.map Stn.d)] h Q := by
  unfold F_require_stations
  refine wF_runK ?_
  unfold S_require_stations
  simp [c_MOST_STATIONS, c_is_station_row]
  refine first_wrong_ok (by rw [List.length_map]; omega) (by rw [List.length_map]; omega) (by rw [List.length_map]; omega) (fun i row h1 er f1 => ?_) fun h' f => ?_
  · rw [List.getElem?_map] at er
    cases ex : rows[i]? with
    | none => rw [ex] at er; cases er
    | some x =>
      rw [ex] at er
      cases er
      refine ⟨F_is_station_row, by simp [List.lookup], ?_⟩
      rw [← List.map_take]
      exact station_row_ok (o x (List.mem_of_getElem? ex)) (not_ahead nd ex) (by rw [List.length_take]; omega) fun h2 f2 => ⟨rfl, f2⟩
  · refine require_part_ok ?_
    exact q h' f
theorem fm_back {h1 h2 : Hs} {m : Nat} {c d : AO} (e : h1[m]? = some c) (f : Fm [] (h1.set m d) h2) : Fm [] h1 (h2.set m c) := by
  refine ⟨by rw [List.length_set]; have := f.len; rwa [List.length_set] at this, fun l hl _ => ?_⟩
  by_cases z : m = l
  · subst z
    rw [e, List.getElem?_set_self (Nat.lt_of_lt_of_le hl (by have := f.len; rwa [List.length_set] at this))]
  · rw [List.getElem?_set_ne z, f.at_ l (by rw [List.length_set]; exact hl) (by simp), List.getElem?_set_ne z]
/-- the rows of kinds, by a closure over the stations' lives -/
theorem require_kinds_ok {l : Nat → LamT} (hl : (l 0).qual = "require_kinds.<locals>.<lambda>") {rows : List Route} {n : Nat} {kvs : List (Key × D)} (ht : h[1]? = some (.tab ("require_kinds", none) "require_kinds.<locals>.<lambda>")) (hd : h[n]? = some (.dK kvs)) (o : ∀ x ∈ rows, RouV kvs x) (nd : (rows.map Route.name).Nodup)
    (l1 : 1 ≤ rows.length) (l2 : rows.length ≤ 4) (q : ∀ h', Fm [] h h' → Q .non h') : wF (F_require_kinds l) [.tup (rows.map Route.d), .loc n] h Q := by
  unfold F_require_kinds
  refine wF_runK ?_
  unfold S_require_kinds
  refine wS_Lam (by unfold isTabAt; rw [ht, hl]; decide +kernel) ?_
  simp
  refine wE_inC ?_
  have e0 : (h ++ [AO.off]).set h.length (.clo (l 0) [.loc n]) = h ++ [.clo (l 0) [.loc n]] := by simp
  have em : (h ++ [AO.clo (l 0) [.loc n]])[h.length]? = some (.clo (l 0) [.loc n]) := by simp
  simp [wsOf, c_MOST_KINDS]
  have F0 : Fm [] h (h ++ [AO.clo (l 0) [.loc n]]) := (Fm.refl [] h).app _
  refine first_wrong_ok (by rw [List.length_map]; omega) (by rw [List.length_map]; omega) (by rw [List.length_map]; omega) (fun i row h1 er f1 => ?_) fun h' f => ?_
  · rw [List.getElem?_map] at er
    cases ex : rows[i]? with
    | none => rw [ex] at er; cases er
    | some x =>
      rw [ex] at er
      cases er
      have hm := f1.get0 em
      have hne : h.length ≠ n := by have := lt_of_get hd; omega
      refine ⟨⟨_, _, hm⟩, wO_callC hm (oneL_self _ _ _) ?_⟩
      rw [← List.map_take]
      show wE (mCallF 3 F_is_kind_row (aCons (mVar 0) (aCons (mVar 1) (aCons (mVar 2) aNil)))) [some x.d, some (.tup ((rows.take i).map Route.d)), some (.loc n)] _ _
      rw [wE_CallF]
      refine ⟨[x.d, .tup ((rows.take i).map Route.d), .loc n], _, rfl, rfl, ?_⟩
      refine kind_row_ok (set_oth (f1.get0 (F0.get0 hd)) hne) (o x (List.mem_of_getElem? ex)) (not_ahead nd ex) (by rw [List.length_take]; omega) fun h2 f2 => ?_
      exact ⟨f2.get0 (set_get hm), rfl, fm_back hm f2⟩
  · refine ⟨⟨_, _, f.get0 em⟩, require_part_ok ?_⟩
    exact q _ ((F0.trans f).set _ (.inr (Nat.le_refl _)))
end
end MP

/-! text SK7 -/
set_option Elab.async false
set_option linter.all false
set_option maxRecDepth 100000
set_option maxHeartbeats 400000
namespace MP
open PySem PySem.Spec PyProof.Rows
open L2 hiding St
section
variable {h : Hs} {Q : QE}
theorem require_orders_ok {l : Nat → LamT} (hl : (l 1).qual = "require_orders.<locals>.<lambda>") {rows : List Order} {n : Nat} {kinds : List Str} {period : Int} (ht : h[2]? = some (.tab ("require_orders", none) "require_orders.<locals>.<lambda>")) (L : Ls h n (kinds.map D.str)) (o : ∀ x ∈ rows, OrdV period kinds x)
    (l2 : rows.length ≤ 5) (q : ∀ h', Fm [] h h' → Q .non h') : wF (F_require_orders l) [.tup (rows.map Order.d), .loc n, .int period] h Q := by
  unfold F_require_orders
  refine wF_runK ?_
  unfold S_require_orders
  refine wS_Lam (by unfold isTabAt; rw [ht, hl]; decide +kernel) ?_
  simp
  refine wE_inC ?_
  have em : (h ++ [AO.clo (l 1) [.loc n, .int period]])[h.length]? = some (.clo (l 1) [.loc n, .int period]) := by simp
  simp [wsOf, c_MOST_ORDERS]
  have F0 : Fm [] h (h ++ [AO.clo (l 1) [.loc n, .int period]]) := (Fm.refl [] h).app _
  refine first_wrong_ok (by omega) (by rw [List.length_map]; omega) (by rw [List.length_map]; omega) (fun i row h1 er f1 => ?_) fun h' f => ?_
  · rw [List.getElem?_map] at er
    cases ex : rows[i]? with
    | none => rw [ex] at er; cases er
    | some x =>
      rw [ex] at er
      cases er
      have hm := f1.get0 em
      have hne : h.length ≠ n := by have := L.lt; omega
      refine ⟨⟨_, _, hm⟩, wO_callC hm (oneL_self _ _ _) ?_⟩
      show wE (mCallF 3 F_is_order_row (aCons (mVar 0) (aCons (mVar 2) (aCons (mVar 3) aNil)))) [some x.d, some (.tup ((rows.map Order.d).take i)), some (.loc n), some (.int period)] _ _
      rw [wE_CallF]
      refine ⟨[x.d, .loc n, .int period], _, rfl, rfl, ?_⟩
      refine order_row_ok (o x (List.mem_of_getElem? ex)) (set_oth (f1.get0 (F0.get0 L)) hne) fun h2 f2 => ?_
      exact ⟨f2.get0 (set_get hm), rfl, fm_back hm f2⟩
  · refine ⟨⟨_, _, f.get0 em⟩, require_part_ok ?_⟩
    exact q _ ((F0.trans f).set _ (.inr (Nat.le_refl _)))
end
end MP

/-! text SK4 -/
set_option Elab.async false
set_option linter.all false
set_option maxRecDepth 100000
set_option maxHeartbeats 400000
namespace MP
open PySem PySem.Spec PyProof.Rows
open L2 hiding St
/-! ### rows of setups -/
def Setup.k (x : Setup) : PyData := .tuple [.str x.at_, .str x.one, .str x.other]
def SLt (x y : Setup) : Prop := PySem.W.dataLt x.k y.k = true
section
variable {h : Hs} {Q : QE}
theorem lt_setups (a x : Setup) (h : Hs) : ltDk (.tup [.str a.at_, .str a.one, .str a.other]) (.tup [.str x.at_, .str x.one, .str x.other]) h = some (.bl (PySem.W.dataLt a.k x.k), h) := by
  have e : ∀ b : Setup, pyD h 20 (.tup [.str b.at_, .str b.one, .str b.other]) = some b.k := fun b => by simp [pyD, pyDs, Setup.k]
  unfold ltDk
  dsimp only
  rw [e a, e x]
  dsimp only
  rw [if_pos]
  refine ⟨?_, ?_⟩
  · simp [Setup.k, PySem.W.alike, PySem.W.alikeAll]
  · simp [Setup.k, PyData.depth, PyData.depthAll]
structure SetV (kvs : List (Key × D)) (kinds : List Str) (x : Setup) : Prop where
  at_ : (valD kvs (.inr x.at_)).isSome = true
  one : x.one ∈ kinds
  other : x.other ∈ kinds
  ne : x.one ≠ x.other
  n1 : Nm8 x.at_
  n2 : Nm8 x.one
  n3 : Nm8 x.other
  cost : 1 ≤ x.cost ∧ x.cost ≤ 3
theorem setup_row_ok {x : Setup} {ahead : List Setup} {n m : Nat} {kvs : List (Key × D)} {kinds : List Str} (hd : h[n]? = some (.dK kvs)) (L : Ls h m (kinds.map D.str)) (o : SetV kvs kinds x) (hl : ahead.length < 100000) (ha : ∀ y, ahead.getLast? = some y → SLt y x)
    (q : ∀ h', Fm [] h h' → Q (.bl true) h') : wF F_is_setup_row [x.d, .tup (ahead.map Setup.d), .loc n, .loc m] h Q := by
  unfold F_is_setup_row
  refine wF_runK ?_
  unfold S_is_setup_row
  simp [Setup.d]
  refine is_row_tup ?_
  simp
  refine wLc_mapM (dec := D.str) (as := [x.at_, x.one, x.other]) (fun _ => D.bl true) (show 3 < sizeLine by decide) (fun _ _ => trivial) (fun w h1 hw f => ?_) (fun h1 f1 L1 => ?_)
  · have hn : Nm8 w := by
      simp at hw
      rcases hw with rfl | rfl | rfl
      · exact o.n1
      · exact o.n2
      · exact o.n3
    simp
    exact is_name_ok hn fun h2 f2 => ⟨rfl, f2⟩
  · have hd1 : dkAt h1 (.loc n) = some (n, kvs) := by rw [dkAt_loc, f1.get0 hd]
    have M1 := L.keep0 f1
    have e1 : notInDk (.str x.at_) (.loc n) h1 = some (.bl false, h1) := by rw [notInDk_dk hd1 (k := .inr x.at_) rfl, o.at_]; rfl
    have dm : dkAt h1 (.loc m) = none := by rw [dkAt_loc, show h1[m]? = _ from M1]
    have nk : ∀ w, w ∈ kinds → notInDk (.str w) (.loc m) h1 = some (.bl false, h1) := fun w hw => by
      rw [notInDk_no dm, nin_strs (xs := kinds) (y := .loc m) (show seqAt h1 (.loc m) = _ from M1.i) (fun b => by simp), decide_eq_true hw]
      rfl
    rw [all_true L1]
    simp [truD, e1, nk _ o.one, nk _ o.other, o.ne]
    have fin : wF F_is_within [D.int x.cost, D.int 1, c_MOST_SETUP] h1 fun d h1 => Q d h1 := by
      unfold c_MOST_SETUP
      refine is_within_int ?_
      rw [decide_eq_true o.cost]
      exact q h1 f1
    by_cases hp : 0 < ahead.length
    · rw [if_pos hp]
      obtain ⟨a, ea⟩ : ∃ a, ahead.getLast? = some a := by
        cases hq : ahead.getLast? with
        | none => rw [List.getLast?_eq_none_iff.mp hq] at hp; cases hp
        | some a => exact ⟨a, rfl⟩
      refine ⟨a, ea, ?_⟩
      rw [lt_setups]
      have : PySem.W.dataLt a.k x.k = true := ha a ea
      simp [this]
      exact fin
    · rw [if_neg hp]
      exact fin
end
end MP

/-! text SK8 -/
set_option Elab.async false
set_option linter.all false
set_option maxRecDepth 100000
set_option maxHeartbeats 400000
namespace MP
open PySem PySem.Spec PyProof.Rows
open L2 hiding St
section
variable {h : Hs} {Q : QE}
theorem last_take {α : Type} {rows : List α} {i : Nat} {y : α} (hi : i < rows.length) (e : (rows.take i).getLast? = some y) : ∃ j, i = j + 1 ∧ rows[j]? = some y := by
  cases i with
  | zero => simp at e
  | succ j =>
    refine ⟨j, rfl, ?_⟩
    rw [List.getLast?_eq_getElem?, List.length_take, Nat.min_eq_left (by omega)] at e
    rw [List.getElem?_take] at e
    simpa using e
theorem require_setups_ok {l : Nat → LamT} (hl : (l 2).qual = "require_setups.<locals>.<lambda>") {rows : List Setup} {n m : Nat} {kvs : List (Key × D)} {kinds : List Str} (ht : h[3]? = some (.tab ("require_setups", none) "require_setups.<locals>.<lambda>")) (hd : h[n]? = some (.dK kvs)) (L : Ls h m (kinds.map D.str))
    (o : ∀ x ∈ rows, SetV kvs kinds x) (asc : ∀ (i : Nat) (x y : Setup), rows[i]? = some x → rows[i + 1]? = some y → SLt x y) (l2 : rows.length ≤ 20) (q : ∀ h', Fm [] h h' → Q .non h') : wF (F_require_setups l) [.tup (rows.map Setup.d), .loc n, .loc m] h Q := by
  unfold F_require_setups
  refine wF_runK ?_
  unfold S_require_setups
  refine wS_Lam (by unfold isTabAt; rw [ht, hl]; decide +kernel) ?_
  simp
  refine wE_inC ?_
  have em : (h ++ [AO.clo (l 2) [.loc m, .loc n]])[h.length]? = some (.clo (l 2) [.loc m, .loc n]) := by simp
  simp [wsOf, c_MOST_SETUPS]
  have F0 : Fm [] h (h ++ [AO.clo (l 2) [.loc m, .loc n]]) := (Fm.refl [] h).app _
  refine first_wrong_ok (by omega) (by rw [List.length_map]; omega) (by rw [List.length_map]; omega) (fun i row h1 er f1 => ?_) fun h' f => ?_
  · rw [List.getElem?_map] at er
    cases ex : rows[i]? with
    | none => rw [ex] at er; cases er
    | some x =>
      rw [ex] at er
      cases er
      have hm := f1.get0 em
      have hne : h.length ≠ n := by have := lt_of_get hd; omega
      have hne2 : h.length ≠ m := by have := L.lt; omega
      have hlt : i < rows.length := (List.getElem?_eq_some_iff.mp ex).1
      refine ⟨⟨_, _, hm⟩, wO_callC hm (oneL_self _ _ _) ?_⟩
      rw [← List.map_take]
      show wE (mCallF 4 F_is_setup_row (aCons (mVar 0) (aCons (mVar 1) (aCons (mVar 3) (aCons (mVar 2) aNil))))) [some x.d, some (.tup ((rows.take i).map Setup.d)), some (.loc m), some (.loc n)] _ _
      rw [wE_CallF]
      refine ⟨[x.d, .tup ((rows.take i).map Setup.d), .loc n, .loc m], _, rfl, rfl, ?_⟩
      refine setup_row_ok (set_oth (f1.get0 (F0.get0 hd)) hne) (set_oth (f1.get0 (F0.get0 L)) hne2) (o x (List.mem_of_getElem? ex)) (by rw [List.length_take]; omega) (fun y hy => ?_) fun h2 f2 => ?_
      · obtain ⟨j, rfl, ej⟩ := last_take hlt hy
        exact asc j y x ej ex
      · exact ⟨f2.get0 (set_get hm), rfl, fm_back hm f2⟩
  · refine ⟨⟨_, _, f.get0 em⟩, require_part_ok ?_⟩
    exact q _ ((F0.trans f).set _ (.inr (Nat.le_refl _)))
end
end MP

/-! text SK9 -/
set_option Elab.async false
set_option linter.all false
set_option maxRecDepth 100000
set_option maxHeartbeats 400000
namespace MP
open PySem PySem.Spec PyProof.Rows
open L2 hiding St
/-! ### dict comprehensions over rows with distinct keys -/
theorem putD_new {κ : Type} [DecidableEq κ] {kvs : List (κ × D)} {k : κ} (d : D) (h : k ∉ kvs.map Prod.fst) : putD kvs k d = kvs ++ [(k, d)] := by
  unfold putD
  rw [if_neg]
  intro e
  obtain ⟨p, hp, e2⟩ := List.any_eq_true.mp e
  exact h (List.mem_map.mpr ⟨p, hp, of_decide_eq_true e2⟩)
theorem wDc_map {α κ : Type} [DecidableEq κ] {dec : α → D} {key : α → κ} {val : α → D} {mk : List (κ × D) → AO} {gd : Gd} {g : GM} {mkv : Rho → Hs → Option ((κ × D) × Hs)} {put : Hs → κ → D → Option Hs} {ρ0 : Rho} {n0 : Nat} {Q : Hs → Prop}
    (hput : ∀ (h : Hs) (kvs : List (κ × D)) (k : κ) (d : D), h[n0]? = some (mk kvs) → kvs.length < sizeLine → put h k d = some (h.set n0 (mk (putD kvs k d)))) (h0 : Hs) (hn : n0 = h0.length) (hgd : ∀ h', Fm [] h0 h' → gOk gd h') :
    ∀ (as done : List α) (h : Hs), ((done ++ as).map key).Nodup → (done ++ as).length < sizeLine → Fm [] h0 h → h[n0]? = some (mk (done.map fun a => (key a, val a))) →
      (∀ (x : α) (h1 : Hs), x ∈ as → Fm [] h0 h1 → wG g (dec x) ρ0 h1 (fun ρ1 h2 => Fm [] h1 h2 ∧ wKV mkv ρ1 h2 (fun k d h3 => k = key x ∧ d = val x ∧ Fm [] h2 h3))) →
      (∀ h', Fm [] h0 h' → h'[n0]? = some (mk ((done ++ as).map fun a => (key a, val a))) → Q h') → wDc gd g bYes mkv put ρ0 (as.map dec) h Q
  | [], done, h, _, _, f, e, _, fin => wDc_nil (hgd h f) (fin h f (by rw [List.append_nil]; exact e))
  | a :: as, done, h, nd, hs, f, e, step, fin => by
    have ea : done ++ a :: as = (done ++ [a]) ++ as := by simp
    refine wDc_cons (hgd h f) ((step a h List.mem_cons_self f).imp fun ρ1 h2 ⟨f2, w⟩ => ?_)
    rw [wB_Yes, if_pos rfl]
    obtain ⟨k, d, h3, ew, rfl, rfl, f3⟩ := w
    have e3 := f3.get0 (f2.get0 e)
    have hnk : key a ∉ (done.map fun a => (key a, val a)).map Prod.fst := by
      rw [List.map_map]
      rw [List.map_append, List.map_cons] at nd
      intro hm
      exact (List.nodup_append.mp nd).2.2 _ hm _ List.mem_cons_self rfl
    have hlen : (done.map fun a => (key a, val a)).length < sizeLine := by
      rw [List.length_map]
      rw [List.length_append] at hs
      omega
    refine ⟨_, _, h3, ew, ?_⟩
    show optP (put h3 (key a) (val a)) _
    rw [hput h3 _ _ _ e3 hlen, optP_some, putD_new _ hnk]
    have F : Fm [] h0 (h3.set n0 (mk (done.map (fun a => (key a, val a)) ++ [(key a, val a)]))) := ((f.trans f2).trans f3).set _ (.inr (by omega))
    refine wDc_map hput h0 hn hgd as (done ++ [a]) _ (by rw [← ea]; exact nd) (by rw [← ea]; exact hs) F (by rw [set_get e3]; simp) (fun x h1 hx => step x h1 (List.mem_cons_of_mem _ hx)) (fun h' f' e' => fin h' f' (by rw [ea]; exact e'))
end MP

/-! text SK10 -/
set_option Elab.async false
set_option linter.all false
set_option maxRecDepth 100000
set_option maxHeartbeats 400000
namespace MP
open PySem PySem.Spec PyProof.Rows
open L2 hiding St
/-! ### a drawn plan is taken -/
theorem ltS_irr (a : Str) : ¬ ltS a a := fun h => by
  unfold ltS at h
  rw [← lt_meets] at h
  exact absurd (of_decide_eq_true h) (List.lt_irrefl _)
theorem slx_slt {x y : Setup} (h : SLx x y) : SLt x y := by
  have no : ∀ a b : Str, ltS a b → PyData.eqv (.str a) (.str b) = false := fun a b h => by
    cases e : PyData.eqv (.str a) (.str b) with
    | false => rfl
    | true =>
      have : a = b := by simpa [PyData.eqv] using e
      subst this
      exact absurd h (ltS_irr a)
  have yes : ∀ a : Str, PyData.eqv (.str a) (.str a) = true := fun a => by simp [PyData.eqv]
  have lt : ∀ a b : Str, ltS a b → PySem.W.dataLt (.str a) (.str b) = true := fun a b h => by rw [PySem.W.dataLt_str, lt_meets]; exact h
  have ak : ∀ a b : Str, PySem.W.alike (.str a) (.str b) = true := fun a b => by simp [PySem.W.alike]
  unfold SLt Setup.k
  rw [PySem.W.dataLt_tuple]
  rcases h with h | ⟨e, h | ⟨e2, h⟩⟩
  · rw [PySem.W.dataLt_all_no (ak _ _) (no _ _ h)]; exact lt _ _ h
  · rw [e, PySem.W.dataLt_all_yes (ak _ _) (yes _), PySem.W.dataLt_all_no (ak _ _) (no _ _ h)]; exact lt _ _ h
  · rw [e, e2, PySem.W.dataLt_all_yes (ak _ _) (yes _), PySem.W.dataLt_all_yes (ak _ _) (yes _), PySem.W.dataLt_all_no (ak _ _) (no _ _ h)]; exact lt _ _ h
theorem valD_map {α κ : Type} [DecidableEq κ] {key : α → κ} {val : α → D} : ∀ {xs : List α} {a : α}, (xs.map key).Nodup → a ∈ xs → valD (xs.map fun a => (key a, val a)) (key a) = some (val a)
  | [], _, _, h => by cases h
  | x :: xs, a, nd, h => by
    rw [List.map_cons, List.nodup_cons] at nd
    unfold valD
    rw [List.map_cons, List.find?_cons]
    by_cases e : key x = key a
    · have : x = a := by
        rcases List.mem_cons.mp h with rfl | h
        · rfl
        · exact absurd (List.mem_map.mpr ⟨a, h, e.symm⟩) nd.1
      subst this
      simp
    · rw [decide_eq_false e]
      rcases List.mem_cons.mp h with rfl | h
      · exact absurd rfl e
      · exact valD_map nd.2 h
theorem valD_none {α κ : Type} [DecidableEq κ] {key : α → κ} {val : α → D} {xs : List α} {k : κ} (h : k ∉ xs.map key) : valD (xs.map fun a => (key a, val a)) k = none := by
  unfold valD
  rw [Option.map_eq_none_iff, List.find?_eq_none]
  rintro ⟨k', v⟩ hm
  obtain ⟨a, ha, e⟩ := List.mem_map.mp hm
  cases e
  simp
  rintro rfl
  exact h (List.mem_map_of_mem ha)
theorem enumD_map {α : Type} (dec : α → D) (xs : List α) : enumD (xs.map dec) = xs.zipIdx.map fun p => .tup [.int (p.2 : Nat), dec p.1] := by
  refine List.ext_getElem? fun i => ?_
  rw [List.getElem?_map, List.getElem?_zipIdx]
  cases e : xs[i]? with
  | none =>
    rw [List.getElem?_eq_none]
    · rfl
    · rw [enumD_len, List.length_map]; exact List.getElem?_eq_none_iff.mp e
  | some a => rw [enumD_get (by rw [List.getElem?_map, e]; rfl)]; simp
def Pl.spotsD (p : Pl) : List (Key × D) := p.rows.zipIdx.map fun x => (.inr x.1.name, .int (x.2 : Nat))
def Pl.livesD (p : Pl) : List (Key × D) := p.rows.map fun x => (.inr x.name, .int x.life)
def Pl.routesD (p : Pl) : List (Key × D) := p.routes.map fun x => (.inr x.name, .tup (x.steps.map Stp1.d))
def Setup.key (x : Setup) : List Key := [.inr x.at_, .inr x.one, .inr x.other]
def Pl.tableD (p : Pl) : List (List Key × D) := p.setups.map fun x => (x.key, .int x.cost)
def Pl.fs (p : Pl) (a b c : Nat) : List (Str × D) := [("stations", .tup (p.rows.map Stn.d)), ("kinds", .tup (p.routes.map Route.d)), ("period", .int p.period), ("orders", .tup (p.orders.map Order.d)), ("setups", .tup (p.setups.map Setup.d)), ("faults", .tup [.int p.often, .int p.apart]), ("spoils", .int p.most), ("spots", .loc a), ("routes", .loc b), ("table", .loc c)]
/-- the object of a plan stands at n -/
structure PlanP (h : Hs) (n : Nat) (p : Pl) (a b c : Nat) : Prop where
  obj : h[n]? = some (.ins "Plan" (p.fs a b c))
  spots : h[a]? = some (.dK p.spotsD)
  routes : h[b]? = some (.dK p.routesD)
  table : h[c]? = some (.dT p.tableD)
def PlanAt (h : Hs) (n : Nat) (p : Pl) : Prop := ∃ a b c, PlanP h n p a b c
theorem PlanP.keep {h h' : Hs} {n : Nat} {p : Pl} {a b c : Nat} {ms : List Nat} (P : PlanP h n p a b c) (f : Fm ms h h') (hn : n ∉ ms) (ha : a ∉ ms) (hb : b ∉ ms) (hc : c ∉ ms) : PlanP h' n p a b c := ⟨f.get P.obj hn, f.get P.spots ha, f.get P.routes hb, f.get P.table hc⟩
theorem PlanAt.keep0 {h h' : Hs} {n : Nat} {p : Pl} (P : PlanAt h n p) (f : Fm [] h h') : PlanAt h' n p := let ⟨a, b, c, P⟩ := P; ⟨a, b, c, P.keep f (by simp) (by simp) (by simp) (by simp)⟩
theorem nodup_keys {p : Pl} (hp : PlOk p) : (p.setups.map Setup.key).Nodup := by
  rw [List.nodup_iff_pairwise_ne, List.pairwise_map]
  refine hp.asc.imp fun {x y} h e => ?_
  unfold Setup.key at e
  simp at e
  obtain ⟨e1, e2, e3⟩ := e
  rcases h with h | ⟨_, h | ⟨_, h⟩⟩
  · rw [e1] at h; exact ltS_irr _ h
  · rw [e2] at h; exact ltS_irr _ h
  · rw [e3] at h; exact ltS_irr _ h
theorem Nm.n8 {x : Str} (h : Nm x) : Nm8 x := ⟨h.ltr, h.pos, h.top⟩
theorem nodup_inr {xs : List Str} (h : xs.Nodup) : (xs.map (Sum.inr : Str → Key)).Nodup := by
  rw [List.nodup_iff_pairwise_ne, List.pairwise_map]
  exact (List.nodup_iff_pairwise_ne.mp h).imp fun h e => h (Sum.inr.inj e)
theorem Pl.lives_at {p : Pl} (hp : PlOk p) {nm : Str} (h : nm ∈ p.rows.map Stn.name) : ∃ x ∈ p.rows, x.name = nm ∧ valD p.livesD (.inr nm) = some (.int x.life) := by
  obtain ⟨x, hx, rfl⟩ := List.mem_map.mp h
  refine ⟨x, hx, rfl, ?_⟩
  have nd : (p.rows.map fun x => (Sum.inr x.name : Key)).Nodup := by
    have : (p.rows.map fun x => (Sum.inr x.name : Key)) = (p.rows.map Stn.name).map Sum.inr := by rw [List.map_map]; rfl
    rw [this]
    exact nodup_inr hp.nd
  exact valD_map (key := fun x : Stn => (Sum.inr x.name : Key)) (val := fun x => .int x.life) nd hx
end MP

/-! text SK11 -/
set_option Elab.async false
set_option linter.all false
set_option maxRecDepth 100000
set_option maxHeartbeats 1000000
namespace MP
open PySem PySem.Spec PyProof.Rows
open L2 hiding St
theorem putFD_new {f : Str} {v : D} : ∀ {fs : List (Str × D)}, f ∉ fs.map Prod.fst → putFD f v fs = fs ++ [(f, v)]
  | [], _ => rfl
  | (g, x) :: r, h => by
    rw [List.map_cons, List.mem_cons, not_or] at h
    show (if g = f then _ else _) = _
    rw [if_neg (Ne.symm h.1), putFD_new h.2]
    rfl
theorem fld_go {f : Str} {me : EM} {b : SM} {ρ : Rho} {h : Hs} {Q : QS} {n : Nat} {fs : List (Str × D)} (ks : List Str) (ho : h[n]? = some (.ins "Plan" fs)) (e0 : ρ[0]? = some (some (.loc n))) (hk : fs.map Prod.fst = ks) (hf : f ∉ ks) (hm : (("Plan" : Str), f) ∈ atL) (hl : ks.length < 1000)
    (w : wE me ρ h (fun d h1 => Fm [] h h1 ∧ ∀ h', Fm [n] h1 h' → h'[n]? = some (.ins "Plan" (fs ++ [(f, d)])) → wS b ρ h' Q)) : wS (sFldS atL f (mVar 0) me) ρ h (seqK b Q) := by
  rw [wS_Fld]
  refine w.imp fun d h1 ⟨f0, k⟩ => ?_
  replace ho := f0.get0 ho
  rw [wE_Var, e0, slotP_some, insAt_loc, ho, optP_some]
  refine ⟨hm, by rw [← hk, List.length_map] at hl; exact hl, ?_⟩
  rw [seqK_nx]
  dsimp only
  rw [putFD_new (by rw [hk]; exact hf)]
  exact k _ ((Fm.refl _ _).set _ (.inl (by simp))) (set_get ho)
structure LamOk (l : Nat → LamT) : Prop where
  q0 : (l 0).qual = "require_kinds.<locals>.<lambda>"
  q1 : (l 1).qual = "require_orders.<locals>.<lambda>"
  q2 : (l 2).qual = "require_setups.<locals>.<lambda>"
structure TabOk (h : Hs) : Prop where
  t1 : h[1]? = some (.tab ("require_kinds", none) "require_kinds.<locals>.<lambda>")
  t2 : h[2]? = some (.tab ("require_orders", none) "require_orders.<locals>.<lambda>")
  t3 : h[3]? = some (.tab ("require_setups", none) "require_setups.<locals>.<lambda>")
theorem TabOk.keep {h h' : Hs} {ms : List Nat} (t : TabOk h) (f : Fm ms h h') (hm : ∀ m ∈ ms, 4 ≤ m) : TabOk h' :=
  ⟨f.get t.t1 (fun z => by have := hm _ z; omega), f.get t.t2 (fun z => by have := hm _ z; omega), f.get t.t3 (fun z => by have := hm _ z; omega)⟩
section
variable {h : Hs} {Q : QE}
theorem Pl.rowV {p : Pl} (hp : PlOk p) : ∀ x ∈ p.rows, StnV x := fun x hx => ⟨(hp.row x hx).1, (hp.row x hx).2.n8, (hp.row x hx).1.zero⟩
theorem Pl.routeV {p : Pl} (hp : PlOk p) : ∀ x ∈ p.routes, RouV p.livesD x := fun x hx => by
  have r := hp.route x hx
  refine ⟨r.nm.n8, ⟨List.length_pos_iff.mpr r.ne, r.len⟩, fun k y hy => ?_⟩
  have s := r.ok k y hy
  obtain ⟨z, hz, e, v⟩ := Pl.lives_at hp s.at_
  have := (hp.row z hz).1.life4
  have w := s.work
  exact ⟨e ▸ (hp.row z hz).2.n8, ⟨z.life, v, by omega⟩, s.work, s.back⟩
theorem Pl.orderV {p : Pl} (hp : PlOk p) : ∀ x ∈ p.orders, OrdV p.period (p.routes.map Route.name) x := fun x hx => by
  have o := hp.order x hx
  obtain ⟨r, hr, e⟩ := List.mem_map.mp o.kind
  exact ⟨o.phase, o.kind, e ▸ (hp.route r hr).nm.n8, o.lead⟩
theorem Pl.setupV {p : Pl} (hp : PlOk p) : ∀ x ∈ p.setups, SetV p.livesD (p.routes.map Route.name) x := fun x hx => by
  have o := hp.setup x hx
  obtain ⟨z, hz, e, v⟩ := Pl.lives_at hp o.at_
  obtain ⟨r, hr, e2⟩ := List.mem_map.mp o.one
  obtain ⟨r', hr', e3⟩ := List.mem_map.mp o.other
  exact ⟨by rw [v]; rfl, o.one, o.other, o.ne, e ▸ (hp.row z hz).2.n8, e2 ▸ (hp.route r hr).nm.n8, e3 ▸ (hp.route r' hr').nm.n8, o.cost⟩
theorem Pl.spots_nd {p : Pl} (hp : PlOk p) : (p.rows.zipIdx.map fun x : Stn × Nat => (Sum.inr x.1.name : Key)).Nodup := by
  have e : p.rows.zipIdx.map (fun x : Stn × Nat => (Sum.inr x.1.name : Key)) = (p.rows.map Stn.name).map Sum.inr := by
    conv => rhs; rw [← List.zipIdx_map_fst 0 p.rows]
    rw [List.map_map, List.map_map]
    rfl
  rw [e]
  exact nodup_inr hp.nd
theorem init_ok {l : Nat → LamT} {n : Nat} {p : Pl} (hl : LamOk l) (ht : TabOk h) (hp : PlOk p) (hn : h[n]? = some (.ins "Plan" [])) (hn4 : 4 ≤ n)
    (q : ∀ h', Fm [n] h h' → PlanAt h' n p → Q .non h') : wF (FPlan___init__ l) [.loc n, .tup (p.rows.map Stn.d), .tup (p.routes.map Route.d), .int p.period, .tup (p.orders.map Order.d), .tup (p.setups.map Setup.d), .tup [.int p.often, .int p.apart], .int p.most] h Q := by
  have hlen := hp.len
  have hklen := hp.klen
  have hslen := hp.slen
  unfold FPlan___init__
  refine wF_runK ?_
  unfold SPlan___init__
  simp [-wS_Fld]
  refine require_stations_ok (Pl.rowV hp) hp.nd (List.length_pos_iff.mpr hp.ne) hp.len fun h1 f1 => ?_
  refine wDc_map (mk := AO.dK) (dec := Stn.d) (key := fun x : Stn => (Sum.inr x.name : Key)) (val := fun x : Stn => D.int x.life) (gd := none) (n0 := h1.length) (fun h kvs k d e hk => by unfold putKAt; rw [e]; simp only; rw [if_pos hk]) h1 rfl (fun _ _ => trivial) p.rows [] _ (by rw [List.nil_append]; have := nodup_inr hp.nd; rwa [List.map_map] at this) (by rw [List.nil_append]; exact Nat.lt_of_le_of_lt hp.len (by decide)) ((Fm.refl [] h1).app _) (app_new h1 _) (fun x h2 hx f2 => ?_) (fun h2 f2 D2 => ?_)
  · simp [Stn.d, keyOf]
  rw [List.nil_append] at D2
  have D2 : h2[h1.length]? = some (.dK p.livesD) := D2
  have F2 : Fm [] h h2 := f1.trans f2
  generalize h1.length = nl at *
  refine require_kinds_ok hl.q0 (ht.keep F2 (by simp)).t1 D2 (Pl.routeV hp) hp.knd (List.length_pos_iff.mpr hp.kne) hp.klen fun h3 f3 => ?_
  refine wLc_mapM (dec := Route.d) (fun x : Route => .str x.name) (Nat.lt_of_le_of_lt hp.klen (by decide)) (fun _ _ => trivial) (fun x h4 hx f4 => by simp [Route.d]) (fun h4 f4 L4 => ?_)
  have L4 : Ls h4 h3.length ((p.routes.map Route.name).map D.str) := by rw [List.map_map]; exact L4
  have D4 := f4.get0 (f3.get0 D2)
  have F4 : Fm [] h h4 := (F2.trans f3).trans f4
  generalize h3.length = nk at *
  refine is_within_int ?_
  simp [c_MOST_PERIOD, hp.period, -wS_Fld]
  refine require_orders_ok hl.q1 (ht.keep F4 (by simp)).t2 L4 (Pl.orderV hp) hp.olen fun h5 f5 => ?_
  refine require_setups_ok hl.q2 (ht.keep (F4.trans f5) (by simp)).t3 (f5.get0 D4) (L4.keep0 f5) (Pl.setupV hp) (fun i x y e1 e2 => slx_slt ?_) hp.slen fun h6 f6 => ?_
  · obtain ⟨i1, a1⟩ := List.getElem?_eq_some_iff.mp e1
    obtain ⟨i2, a2⟩ := List.getElem?_eq_some_iff.mp e2
    have := List.pairwise_iff_getElem.mp hp.asc i (i + 1) i1 i2 (by omega)
    rwa [a1, a2] at this
  have ho := hp.often
  have ha := hp.apart
  refine is_bound_ok ho ha ?_
  simp [-wS_Fld]
  refine is_within_int ?_
  simp [c_MOST_SPOILS, hp.most, -wS_Fld]
  have F6 : Fm [] h h6 := (F4.trans f5).trans f6
  have o6 := F6.get0 hn
  have G6 : Fm [n] h h6 := F6.of0
  clear D4 L4 D2
  refine fld_go [] o6 rfl rfl (by decide +kernel) (by decide +kernel) (by decide) ?_
  simp [-wS_Fld]
  refine fun h7 f7 o7 => ?_
  refine fld_go ["stations"] o7 rfl rfl (by decide +kernel) (by decide +kernel) (by decide) ?_
  simp [-wS_Fld]
  refine fun h8 f8 o8 => ?_
  refine fld_go ["stations", "kinds"] o8 rfl rfl (by decide +kernel) (by decide +kernel) (by decide) ?_
  simp [-wS_Fld]
  refine fun h9 f9 o9 => ?_
  refine fld_go ["stations", "kinds", "period"] o9 rfl rfl (by decide +kernel) (by decide +kernel) (by decide) ?_
  simp [-wS_Fld]
  refine fun hA fA oA => ?_
  refine fld_go ["stations", "kinds", "period", "orders"] oA rfl rfl (by decide +kernel) (by decide +kernel) (by decide) ?_
  simp [-wS_Fld]
  refine fun hB fB oB => ?_
  refine fld_go ["stations", "kinds", "period", "orders", "setups"] oB rfl rfl (by decide +kernel) (by decide +kernel) (by decide) ?_
  simp [-wS_Fld]
  refine fun hC fC oC => ?_
  refine fld_go ["stations", "kinds", "period", "orders", "setups", "faults"] oC rfl rfl (by decide +kernel) (by decide +kernel) (by decide) ?_
  simp [-wS_Fld]
  refine fun hD fD oD => ?_
  have GD : Fm [n] h hD := ((((((G6.trans f7).trans f8).trans f9).trans fA).trans fB).trans fC).trans fD
  have hnlt := lt_of_get hn
  have eD := GD.len
  clear f7 f8 f9 fA fB fC fD o6 o7 o8 o9 oA oB oC
  refine fld_go ["stations", "kinds", "period", "orders", "setups", "faults", "spoils"] oD rfl rfl (by decide +kernel) (by decide +kernel) (by decide) ?_
  simp [-wS_Fld]
  rw [enumD_map]
  refine wDc_map (mk := AO.dK) (dec := fun x : Stn × Nat => .tup [.int (x.2 : Nat), x.1.d]) (key := fun x : Stn × Nat => (Sum.inr x.1.name : Key)) (val := fun x : Stn × Nat => D.int (x.2 : Nat)) (gd := none) (n0 := hD.length) (fun h kvs k d e hk => by unfold putKAt; rw [e]; simp only; rw [if_pos hk]) hD rfl (fun _ _ => trivial) p.rows.zipIdx [] _ (by rw [List.nil_append]; exact Pl.spots_nd hp) (by rw [List.nil_append, List.length_zipIdx]; exact Nat.lt_of_le_of_lt hp.len (by decide)) ((Fm.refl [] hD).app _) (app_new hD _) (fun x hE hx fE => ?_) (fun hE fE DE => ?_)
  · simp [Stn.d, keyOf]
  rw [List.nil_append] at DE
  have DE : hE[hD.length]? = some (.dK p.spotsD) := DE
  refine ⟨fE, fun hF fF oF => ?_⟩
  have GF : Fm [n] h hF := (GD.then0 fE).trans fF
  have DF := fF.get DE (by simp; omega)
  have eF := GF.len
  generalize hD.length = na at *
  clear fE fF oD
  refine fld_go ["stations", "kinds", "period", "orders", "setups", "faults", "spoils", "spots"] oF rfl rfl (by decide +kernel) (by decide +kernel) (by decide) ?_
  simp [-wS_Fld]
  refine wDc_map (mk := AO.dK) (dec := Route.d) (key := fun x : Route => (Sum.inr x.name : Key)) (val := fun x : Route => D.tup (x.steps.map Stp1.d)) (gd := none) (n0 := hF.length) (fun h kvs k d e hk => by unfold putKAt; rw [e]; simp only; rw [if_pos hk]) hF rfl (fun _ _ => trivial) p.routes [] _ (by rw [List.nil_append]; have := nodup_inr hp.knd; rwa [List.map_map] at this) (by rw [List.nil_append]; exact Nat.lt_of_le_of_lt hp.klen (by decide)) ((Fm.refl [] hF).app _) (app_new hF _) (fun x hG hx fG => ?_) (fun hG fG DG => ?_)
  · simp [Route.d, keyOf]
  rw [List.nil_append] at DG
  have DG : hG[hF.length]? = some (.dK p.routesD) := DG
  refine ⟨fG, fun hH fH oH => ?_⟩
  have GH : Fm [n] h hH := (GF.then0 fG).trans fH
  have DH := fH.get DG (by simp; omega)
  have DH2 := fH.get (fG.get0 DF) (by simp; omega)
  have eH := GH.len
  generalize hF.length = nb at *
  clear fG fH oF DF
  refine fld_go ["stations", "kinds", "period", "orders", "setups", "faults", "spoils", "spots", "routes"] oH rfl rfl (by decide +kernel) (by decide +kernel) (by decide) ?_
  simp [-wS_Fld]
  refine wDc_map (mk := AO.dT) (dec := Setup.d) (key := Setup.key) (val := fun x : Setup => D.int x.cost) (gd := none) (n0 := hH.length) (fun h kvs k d e hk => by unfold putTAt; rw [e]; simp only; rw [if_pos hk]) hH rfl (fun _ _ => trivial) p.setups [] _ (by rw [List.nil_append]; exact nodup_keys hp) (by rw [List.nil_append]; exact Nat.lt_of_le_of_lt hp.slen (by decide)) ((Fm.refl [] hH).app _) (app_new hH _) (fun x hI hx fI => ?_) (fun hI fI DI => ?_)
  · simp [Setup.d, keyOf, keysOf, cutD, Setup.key]
  rw [List.nil_append] at DI
  have DI : hI[hH.length]? = some (.dT p.tableD) := DI
  refine ⟨fI, fun hJ fJ oJ => ?_⟩
  refine q hJ ((GH.then0 fI).trans fJ) ⟨na, nb, hH.length, oJ, fJ.get (fI.get0 DH2) (by simp; omega), fJ.get (fI.get0 DH) (by simp; omega), fJ.get DI (by simp; omega)⟩
end
end MP

/-! text SK12 -/
set_option Elab.async false
set_option linter.all false
set_option maxRecDepth 100000
set_option maxHeartbeats 1000000
namespace MP
open PySem PySem.Spec PyProof.Rows
open L2 hiding St
section
variable {h : Hs} {Q : QE}
theorem made_ok {l : Nat → LamT} {p : Pl} (hl : LamOk l) (ht : TabOk h) (hp : PlOk p) (h4 : 4 ≤ h.length) (q : ∀ h', Fm [] h h' → PlanAt h' h.length p → Q (.loc h.length) h') : wF (F_law_made l) [p.d] h Q := by
  unfold F_law_made
  refine wF_runK ?_
  unfold S_law_made
  simp [Pl.d, srcs]
  have es : srcs [D.tup (p.rows.map Stn.d), .tup (p.routes.map Route.d), .int p.period, .tup (p.orders.map Order.d)] [D.tup (p.setups.map Setup.d), .tup [.int p.often, .int p.apart], .int p.most] ((List.range 4).map ASrc.pos ++ (List.range 3).map ASrc.kw) = some [.tup (p.rows.map Stn.d), .tup (p.routes.map Route.d), .int p.period, .tup (p.orders.map Order.d), .tup (p.setups.map Setup.d), .tup [.int p.often, .int p.apart], .int p.most] := rfl
  rw [es, optP_some, wF_mkN]
  have f0 : Fm [] h (h ++ [.ins "Plan" []]) := (Fm.refl [] h).app _
  refine init_ok hl (ht.keep f0 (by simp)) hp (app_new h _) h4 fun h' f P => ⟨rfl, ?_⟩
  exact q h' (f0.then f (by simp)) P
/-! ### strikes counted -/
def nS (ws : List Str) : Nat := (ws.filter fun w => !decide (w = dash)).length
theorem strikes_in_ok {ws : List Str} (hl : ws.length ≤ 10000000) (q : ∀ h', Fm [] h h' → Q (.int (nS ws)) h') : wF F_strikes_in [.tup (ws.map D.str)] h Q := by
  unfold F_strikes_in
  refine wF_runK ?_
  unfold S_strikes_in
  simp
  refine wLc_pureM (fun w : Str => !decide (w = dash)) (fun w => .str w) (by simp; omega) (fun _ _ => trivial) (fun w h1 hw f => by simp [dash]) (fun h1 f1 L1 => ?_)
  simp [L1.i]
  exact q h1 f1
def win (ws : List Str) (k n : Nat) : List Str := (ws.drop k).take n
theorem nS_app (a b : List Str) : nS (a ++ b) = nS a + nS b := by simp [nS]
/-- how many strikes end in the window that ends behind moment i -/
def nW (ws : List Str) (w i : Nat) : Nat := nS (win ws (i + 1 - w) (i + 1 - (i + 1 - w)))
def within (ws : List Str) (many : Int) (w : Nat) : Bool := (List.range ws.length).all fun i => decide ((nW ws w i : Int) ≤ many)
theorem is_within_bound_ok {n : Nat} {p : Pl} {ws : List Str} (hp : PlOk p) (P : PlanAt h n p) (hl : ws.length ≤ 10000) (q : ∀ h', Fm [] h h' → Q (.bl (within ws p.often p.apart.toNat)) h') : wF F_is_within_bound [.loc n, .tup (ws.map D.str)] h Q := by
  have ha := hp.apart
  unfold F_is_within_bound
  refine wF_runK ?_
  unfold S_is_within_bound
  obtain ⟨a, b, c, P0⟩ := P
  have hat : (("Plan" : Str), ("faults" : Str)) ∈ atL := by decide +kernel
  have hlk : (p.fs a b c).lookup ("faults" : Str) = some (D.tup [.int p.often, .int p.apart]) := rfl
  simp [P0.obj, hat, hlk]
  refine ⟨by omega, ?_⟩
  have en : ((ws.length : Int) + 1 - 1).toNat = ws.length := by omega
  obtain ⟨J, hJ⟩ : ∃ J : Nat → Rho → Hs → Prop, ∀ i ρ hx, J i ρ hx ↔ ∃ o2, ρ = [some (.loc n), some (.tup (ws.map D.str)), o2, some (.int p.often), some (.int p.apart)] ∧ Fm [] h hx ∧ ∀ j < i, (nW ws p.apart.toNat j : Int) ≤ p.often := ⟨_, fun _ _ _ => Iff.rfl⟩
  refine wFor_inv J ((hJ _ _ _).mpr ⟨none, rfl, Fm.refl _ _, by simp⟩) (fun i x ρ hx hi Ji => ?_) (fun ρ hx Ji => ?_)
  · obtain ⟨o2, e, f, hS⟩ := (hJ _ _ _).mp Ji
    subst e
    obtain ⟨hi1, rfl⟩ := rangeD_at hi
    have hi2 : i < ws.length := by omega
    have e1 : (1 + (i : Int) * 1) = ((i + 1 : Nat) : Int) := by push_cast; omega
    have e2 : (if p.apart < ((i + 1 : Nat) : Int) then ((i + 1 : Nat) : Int) - p.apart else 0) = ((i + 1 - p.apart.toNat : Nat) : Int) := by split <;> omega
    rw [e1]
    have e3 : min (i + 1 - p.apart.toNat) ws.length = i + 1 - p.apart.toNat := by omega
    have e4 : min (i + 1) ws.length = i + 1 := by omega
    have e5 : (List.take (i + 1 - (i + 1 - p.apart.toNat)) (List.drop (i + 1 - p.apart.toNat) (ws.map D.str))) = (win ws (i + 1 - p.apart.toNat) (i + 1 - (i + 1 - p.apart.toNat))).map D.str := by unfold win; rw [← List.map_drop, ← List.map_take]
    refine ⟨trivial, ?_⟩
    simp [-Int.natCast_add]
    rw [e2, HT.sIx_nat, e3, e4, e5]
    refine strikes_in_ok (by unfold win; simp; omega) fun h1 f1 => ?_
    simp
    by_cases hw : (nW ws p.apart.toNat i : Int) ≤ p.often
    · rw [if_neg (by unfold nW at hw; omega)]
      refine (hJ _ _ _).mpr ⟨_, rfl, f.trans f1, fun j hj => ?_⟩
      by_cases hj2 : j < i
      · exact hS j hj2
      · rw [show j = i by omega]; exact hw
    · rw [if_pos (by unfold nW at hw; omega)]
      have : within ws p.often p.apart.toNat = false := by
        unfold within
        rw [List.all_eq_false]
        exact ⟨i, by simpa using hi2, by simpa using hw⟩
      rw [this] at q
      exact q h1 (f.trans f1)
  · obtain ⟨o2, e, f, hS⟩ := (hJ _ _ _).mp Ji
    subst e
    refine ⟨trivial, ?_⟩
    simp
    have : within ws p.often p.apart.toNat = true := by
      unfold within
      rw [List.all_eq_true]
      intro i hi
      exact decide_eq_true (hS i (by rw [rangeD_len]; simp at hi; omega))
    rw [this] at q
    exact q hx f
/-! ### the course of a walk is within its bound -/
/-- the ages of the last strikes of a course that are less than the window -/
def agesN (w : Nat) : List Str → List Int
  | [] => []
  | x :: r => ((if x = dash then [] else [(1 : Int)]) ++ (agesN w r).map (· + 1)).filter fun n => decide (n < w)
theorem runs_strikes {p : Pl} (hp : PlOk p) (said : List Str) : (p.runs said).strikes = agesN p.apart.toNat said.reverse := by
  have ha := hp.apart
  have key : ∀ n (said : List Str), said.length = n → (p.runs said).strikes = agesN p.apart.toNat said.reverse := by
    intro n
    induction n with
    | zero => intro said h; rw [List.length_eq_zero_iff.mp h]; rfl
    | succ n ih =>
      intro said h
      have hne : said ≠ [] := by intro e; subst e; simp at h
      rw [← List.dropLast_concat_getLast hne, runs_snoc]
      have i2 := ih said.dropLast (by simp; omega)
      generalize said.dropLast = pre at *
      generalize said.getLast hne = w at *
      rw [List.reverse_append, List.reverse_singleton]
      show (((if (!decide (w = "-")) = true then [1] else []) ++ (p.runs pre).strikes.map (· + 1)).filter fun n => decide (n < p.apart)) = agesN p.apart.toNat ([w] ++ pre.reverse)
      rw [i2]
      show _ = (((if w = dash then [] else [(1 : Int)]) ++ (agesN p.apart.toNat pre.reverse).map (· + 1)).filter fun n => decide (n < (p.apart.toNat : Int)))
      have e : (p.apart.toNat : Int) = p.apart := by omega
      rw [e]
      congr 2
      unfold dash
      by_cases hw : w = "-"
      · simp [hw]
      · simp [hw]
  exact key _ _ rfl
/-- ages, counted: those below n are the strikes of the first n - 1 -/
theorem ages_count (w : Nat) : ∀ (xs : List Str) (n : Nat), n ≤ w → ((agesN w xs).filter fun a => decide (a < (n : Int))).length = nS (xs.take (n - 1)) ∧ ∀ a ∈ agesN w xs, 1 ≤ a
  | [], n, hn => ⟨by simp [agesN, nS], by simp [agesN]⟩
  | x :: r, n, hn => by
    obtain ⟨_, pos⟩ := ages_count w r 0 (by omega)
    have pos2 : ∀ a ∈ agesN w (x :: r), 1 ≤ a := fun a ha => by
      unfold agesN at ha
      have ha := (List.mem_filter.mp ha).1
      rcases List.mem_append.mp ha with ha | ha
      · split at ha
        · cases ha
        · rw [List.mem_singleton.mp ha]; omega
      · obtain ⟨b, hb, rfl⟩ := List.mem_map.mp ha
        have := pos b hb
        omega
    refine ⟨?_, pos2⟩
    unfold agesN
    rw [List.filter_filter]
    have e0 : (fun a : Int => decide (a < (n : Int)) && decide (a < (w : Int))) = fun a => decide (a < (n : Int)) := by
      funext a
      by_cases h : a < (n : Int)
      · rw [decide_eq_true h, decide_eq_true (show a < (w : Int) by omega)]; rfl
      · rw [decide_eq_false h]; rfl
    rw [e0, List.filter_append, List.length_append]
    cases n with
    | zero =>
      have z1 : (List.filter (fun a : Int => decide (a < ((0 : Nat) : Int))) (if x = dash then [] else [(1 : Int)])) = [] := by split <;> simp
      have z2 : (List.filter (fun a : Int => decide (a < ((0 : Nat) : Int))) ((agesN w r).map (· + 1))) = [] := by
        rw [List.filter_eq_nil_iff]
        intro a ha
        obtain ⟨b, hb, rfl⟩ := List.mem_map.mp ha
        have := pos b hb
        simp; omega
      rw [z1, z2]; simp [nS]
    | succ n =>
      obtain ⟨c, _⟩ := ages_count w r n (by omega)
      have e1 : (List.filter (fun a : Int => decide (a < ((n + 1 : Nat) : Int))) ((agesN w r).map (· + 1))).length = nS (r.take (n - 1)) := by
        rw [List.filter_map, List.length_map, ← c]
        congr 2
        funext a
        simp only [Function.comp_apply]
        by_cases h : a < (n : Int)
        · rw [decide_eq_true h, decide_eq_true (by omega)]
        · rw [decide_eq_false h, decide_eq_false (by omega)]
      rw [e1]
      cases n with
      | zero =>
        have z1 : (List.filter (fun a : Int => decide (a < ((0 + 1 : Nat) : Int))) (if x = dash then [] else [(1 : Int)])) = [] := by split <;> simp
        rw [z1]; simp [nS]
      | succ n =>
        have z1 : (List.filter (fun a : Int => decide (a < ((n + 1 + 1 : Nat) : Int))) (if x = dash then [] else [(1 : Int)])).length = nS [x] := by
          by_cases hx : x = dash
          · simp [hx, nS]
          · rw [if_neg hx, List.filter_cons_of_pos (by simp; omega)]
            simp [hx, nS]
        rw [z1]
        show _ = nS ((x :: r).take (n + 1))
        rw [List.take_succ_cons, show x :: r.take n = [x] ++ r.take n from rfl, nS_app]
        rfl
theorem nS_le {a b : List Str} (h : a.Sublist b) : nS a ≤ nS b := (h.filter _).length_le
theorem nS_rev (a : List Str) : nS a.reverse = nS a := by unfold nS; rw [List.filter_reverse, List.length_reverse]
theorem ages_len (w : Nat) (xs : List Str) : (agesN w xs).length = nS (xs.take (w - 1)) := by
  rw [← (ages_count w xs w (Nat.le_refl _)).1]
  congr 1
  cases xs with
  | nil => rfl
  | cons x r => unfold agesN; rw [List.filter_filter]; simp
theorem nW_eq {ws : List Str} {w i : Nat} (hw : 1 ≤ w) {x : Str} (hx : ws[i]? = some x) : nW ws w i = nS ((ws.take i).drop (i - (w - 1))) + nS [x] := by
  have hi := (List.getElem?_eq_some_iff.mp hx).1
  unfold nW win
  rw [← List.drop_take, List.take_add_one, hx, List.drop_append_of_le_length (by simp; omega), show i + 1 - w = i - (w - 1) by omega]
  exact nS_app _ _
theorem walk_within {p : Pl} {said : List Str} (hp : PlOk p) (C : CourseOk p said) : within said p.often p.apart.toNat = true := by
  have ha := hp.apart
  have ho := hp.often
  have key : ∀ i, i < said.length → (nW said p.apart.toNat i : Int) ≤ p.often := by
    intro i
    induction i with
    | zero =>
      intro hi
      have hx := List.getElem?_eq_getElem hi
      have m := C.mem 0 _ hx
      generalize said[0] = x at *
      rw [nW_eq (by omega) hx]
      unfold Pl.open at m
      split at m
      · simp at m
        subst m
        simp [nS, dash]
        omega
      · rename_i hn
        have : (p.runs (said.take 0)).strikes.length = 0 := rfl
        have h1 : nS [x] ≤ 1 := by unfold nS; exact List.length_filter_le _ _
        simp [nS] at *
        omega
    | succ i ih =>
      intro hi
      have i0 := ih (by omega)
      have hx := List.getElem?_eq_getElem hi
      have hy := List.getElem?_eq_getElem (show i < said.length by omega)
      have m := C.mem (i + 1) _ hx
      generalize said[i + 1] = x at *
      generalize said[i] = y at *
      have e := nW_eq (w := p.apart.toNat) (by omega) hx
      have el : (p.runs (said.take (i + 1))).strikes.length = nS ((said.take (i + 1)).drop (i + 1 - (p.apart.toNat - 1))) := by
        rw [runs_strikes hp, ages_len, List.take_reverse, nS_rev]
        congr 2
        simp
        omega
      rw [e, ← el]
      unfold Pl.open at m
      split at m
      · have : x = dash := by simpa using m
        subst this
        have h1 : nS ((said.take (i + 1)).drop (i + 1 - (p.apart.toNat - 1))) ≤ nW said p.apart.toNat i := by
          rw [nW_eq (by omega) hy, List.take_add_one, hy, ← nS_app]
          refine nS_le ?_
          show List.Sublist _ ((said.take i).drop (i - (p.apart.toNat - 1)) ++ [y])
          rw [← List.drop_append_of_le_length (by simp; omega)]
          have : i + 1 - (p.apart.toNat - 1) = (i - (p.apart.toNat - 1)) + (i + 1 - (p.apart.toNat - 1) - (i - (p.apart.toNat - 1))) := by omega
          rw [this, ← List.drop_drop]
          exact List.drop_sublist _ _
        rw [el]
        have : nS [dash] = 0 := rfl
        omega
      · rename_i hn
        have h1 : nS [x] ≤ 1 := by unfold nS; exact List.length_filter_le _ _
        omega
  unfold within
  rw [List.all_eq_true]
  intro i hi
  exact decide_eq_true (key i (by simpa using hi))
theorem within_fwd {ws : List Str} {many : Int} {w : Nat} (hw : 1 ≤ w) : within ws many w = (List.range ws.length).all fun k => decide ((nS (win ws k w) : Int) ≤ many) := by
  rw [Bool.eq_iff_iff]
  unfold within
  simp only [List.all_eq_true, List.mem_range, decide_eq_true_eq]
  constructor
  · intro h k hk
    by_cases hl : k + w ≤ ws.length
    · have := h (k + w - 1) (by omega)
      unfold nW at this
      rwa [show k + w - 1 + 1 - w = k by omega, show k + w - 1 + 1 - k = w by omega] at this
    · have := h (ws.length - 1) (by omega)
      have s : nS (win ws k w) ≤ nW ws w (ws.length - 1) := by
        unfold nW win
        refine nS_le ?_
        rw [List.take_of_length_le (by simp; omega), List.take_of_length_le (by simp; omega)]
        have : k = (ws.length - 1 + 1 - w) + (k - (ws.length - 1 + 1 - w)) := by omega
        rw [this, ← List.drop_drop]
        exact List.drop_sublist _ _
      omega
  · intro h i hi
    have := h (i + 1 - w) (by omega)
    have s : nW ws w i ≤ nS (win ws (i + 1 - w) w) := by
      unfold nW win
      refine nS_le ?_
      have : i + 1 - (i + 1 - w) = min (i + 1 - (i + 1 - w)) w := by omega
      rw [this, ← List.take_take]
      exact List.take_sublist _ _
    omega
end
end MP

/-! text SK13 -/
set_option Elab.async false
set_option linter.all false
set_option maxRecDepth 100000
set_option maxHeartbeats 1000000
namespace MP
open PySem PySem.Spec PyProof.Rows
open L2 hiding St
theorem TabOk.gr {h h' : Hs} {r : Nat} (t : TabOk h) (g : Gr r h h') (hr : 4 ≤ r) : TabOk h' := t.keep g.fm (by simpa using hr)
theorem PlanAt.gr {h h' : Hs} {n r : Nat} {p : Pl} (P : PlanAt h n p) (g : Gr r h h') (hr : ∃ o, h[r]? = some (.lst o)) : PlanAt h' n p := by
  obtain ⟨a, b, c, P⟩ := P
  obtain ⟨o, e⟩ := hr
  refine ⟨a, b, c, P.keep g.fm ?_ ?_ ?_ ?_⟩
  · simp; rintro rfl; rw [P.obj] at e; cases e
  · simp; rintro rfl; rw [P.spots] at e; cases e
  · simp; rintro rfl; rw [P.routes] at e; cases e
  · simp; rintro rfl; rw [P.table] at e; cases e
theorem Rw.is {h : Hs} {r : Nat} (w : Rw r h) : ∃ o, h[r]? = some (.lst o) := let ⟨_, _, _, _, _, e, _⟩ := w; ⟨_, e⟩
theorem sum_intsK {h : Hs} {n : Nat} {xs : List Int} (e : itemsAt h n = some (xs.map D.int)) : sumN [.loc n] h = some (.int xs.sum, h) := by
  unfold sumN
  have e' : D.atItems h (.loc n) = some (xs.map D.int) := e
  dsimp only
  rw [e']
  dsimp only [Option.bind_some]
  rw [asInts_map]
def tsX : List ((Str × Option Str) × Str) := [(("require_kinds", none), "require_kinds.<locals>.<lambda>"), (("require_orders", none), "require_orders.<locals>.<lambda>"), (("require_setups", none), "require_setups.<locals>.<lambda>")]
theorem nS_sum (ws : List Str) : ((ws.map fun w => if !decide (w = dash) then (1 : Int) else 0)).sum = nS ws := by
  induction ws with
  | nil => rfl
  | cons w r ih =>
    rw [List.map_cons, List.sum_cons, ih]
    by_cases h : w = dash
    · simp [h, nS]
    · simp [h, nS]; omega
theorem law_k38 (l : Nat → LamT) (q0 : (l 0).qual = "require_kinds.<locals>.<lambda>") (q1 : (l 1).qual = "require_orders.<locals>.<lambda>") (q2 : (l 2).qual = "require_setups.<locals>.<lambda>") (ns : List Int) : ∃ h', F_law_k38 l [.loc 0] (start0 ns tsX) = some (.bl true, h') := by
  suffices H : wF (F_law_k38 l) [.loc 0] (start0 ns tsX) (fun d _ => d = .bl true) by
    obtain ⟨d, h', e, q⟩ := H
    exact ⟨h', by rw [e, q]⟩
  have hl : LamOk l := ⟨q0, q1, q2⟩
  have ht0 : TabOk (start0 ns tsX ++ [.lst [.loc 0, .int 0, .int 7381, .int 0]]) := ⟨rfl, rfl, rfl⟩
  have R0 : Rw 4 (start0 ns tsX ++ [.lst [.loc 0, .int 0, .int 7381, .int 0]]) := ⟨ns, 0, 7381, 0, rfl, rfl, by omega, by omega⟩
  have e4 : (start0 ns tsX).length = 4 := rfl
  unfold F_law_k38
  refine wF_runK ?_
  unfold S_law_k38
  simp [e4]
  generalize start0 ns tsX ++ [.lst [.loc 0, .int 0, .int 7381, .int 0]] = h0 at *
  obtain ⟨J, hJ⟩ : ∃ J : Nat → Rho → Hs → Prop, ∀ j ρ hx, J j ρ hx ↔ ∃ o2 o3 o4 o5 o6 o7 o8 o9 o10 o11 o12 o13 o14, ρ = [some (.loc 0), some (.loc 4), o2, o3, o4, o5, o6, o7, o8, o9, o10, o11, o12, o13, o14] ∧ Rw 4 hx ∧ TabOk hx := ⟨_, fun _ _ _ => Iff.rfl⟩
  refine wFor_inv J ((hJ _ _ _).mpr ⟨none, none, none, none, none, none, none, none, none, none, none, none, none, rfl, R0, ht0⟩) (fun j x ρ hx hj Jj => ?_) (fun ρ hx Jj => ?_)
  · obtain ⟨o2, o3, o4, o5, o6, o7, o8, o9, o10, o11, o12, o13, o14, e, R, T⟩ := (hJ _ _ _).mp Jj
    subst e
    refine ⟨trivial, ?_⟩
    simp
    refine lines_ok R fun p said0 f0 h1 hp oft C0 cl0 g1 ff0 L0 => ?_
    simp
    have R1 := g1.rw
    have T1 := T.gr g1 (by decide)
    refine made_ok hl T1 hp (by have := R1.lt; omega) fun h2 f2 P2 => ?_
    have R2 := R1.keep f2
    have T2 := T1.keep f2 (by simp)
    generalize h1.length = np at *
    have hpk : (D.loc np) = .loc np := rfl
    refine pickN_ok [4, 12, 20] 4 20 R2 (by decide) (by decide) (by decide) fun many h3 _ m0 m1 g3 => ?_
    have P3 := P2.gr g3 R2.is
    have T3 := T2.gr g3 (by decide)
    refine walk_ok hp g3.rw (by omega) (by omega) fun said S h4 g4 C cl LS => ?_
    have P4 := P3.gr g4 g3.rw.is
    have T4 := T3.gr g4 (by decide)
    simp
    refine is_within_bound_ok hp P4 (by omega) fun h5 f5 => ?_
    rw [walk_within hp C]
    have P5 := P4.keep0 f5
    have T5 := T4.keep f5 (by simp)
    have R5 := g4.rw.keep f5
    have eis : isNotO (.bl true) (.bl true) h5 = some (.bl false, h5) := rfl
    rw [eis, wO_some, blP_bl, and_iff_right rfl]
    have hpl := hp.len
    refine wLc_mapM (dec := Stn.d) (fun x : Stn => .str x.name) (Nat.lt_of_le_of_lt hp.len (by decide)) (fun _ _ => trivial) (fun x h6 hx f6 => by simp [Stn.d]) (fun h6 f6 L6 => ?_)
    have L6 : Ls h6 h5.length (p.names.map D.str) := by unfold Pl.names; rw [List.map_map]; exact L6
    have P6 := P5.keep0 f6
    have T6 := T5.keep f6 (by simp)
    have R6 := R5.keep f6
    have n4 : h5.length ≠ 4 := by have := R5.lt; omega
    generalize h5.length = nn at *
    refine taken_ok R6 (by omega) (by omega) fun k h7 k0 k1 g7 => ?_
    have P7 := P6.gr g7 R6.is
    have T7 := T6.gr g7 (by decide)
    have L7 := L6.keep g7.fm (by simpa using n4)
    rw [inP_int]
    refine ⟨by omega, ?_⟩
    unfold rangeD
    refine wLc_draw (P := fun (_ : Nat) (_ : Str) => True) (enc := D.str) g7.rw (by simp; omega) (fun h' g => trivial) (fun x h8 hx g8 => ?_) (fun ws h8 g8 L8 hl8 _ => ?_)
    · have L8 := L7.keep g8.fm (by simpa using n4)
      obtain ⟨n0, nr, en⟩ : ∃ a r, p.names = a :: r := by
        cases e : p.names with
        | nil => exact absurd (List.map_eq_nil_iff.mp e) hp.ne
        | cons a r => exact ⟨a, r, rfl⟩
      have hn0 : n0.length ≤ 8 := (names_nm hp (by rw [en]; exact List.mem_cons_self)).top
      have hnr : nr.length ≤ 3 := by have := congrArg List.length en; simp [Pl.names] at this; omega
      rw [en] at L8
      simp
      refine ⟨Gr.refl g8.rw, ?_⟩
      have e1 := L8.lt
      simp [L8.l, L8.i, e1]
      rw [if_pos (by omega), wO_some]
      have f9 : Fm [] h8 (h8 ++ [AO.lst [D.str (Str.ofString "-"), D.str (Str.ofString "-"), D.str (Str.ofString "-")], AO.lst (D.str (Str.ofString "-") :: D.str (Str.ofString "-") :: D.str (Str.ofString "-") :: D.str n0 :: List.map D.str nr)]) := (Fm.refl _ _).app _
      have B9 : Ls (h8 ++ [AO.lst [D.str (Str.ofString "-"), D.str (Str.ofString "-"), D.str (Str.ofString "-")], AO.lst (D.str (Str.ofString "-") :: D.str (Str.ofString "-") :: D.str (Str.ofString "-") :: D.str n0 :: List.map D.str nr)]) (h8.length + 1) ((dash :: dash :: dash :: n0 :: nr).map D.str) := by unfold Ls; simp [dash]
      have b9 : h8.length + 1 ≠ 4 := by have := g8.rw.lt; omega
      generalize h8 ++ [AO.lst [D.str (Str.ofString "-"), D.str (Str.ofString "-"), D.str (Str.ofString "-")], AO.lst (D.str (Str.ofString "-") :: D.str (Str.ofString "-") :: D.str (Str.ofString "-") :: D.str n0 :: List.map D.str nr)] = h9 at *
      generalize h8.length + 1 = b at *
      have e2 : n0.length + (Str.ofString "!").length ≤ sizeLine := by
        have : (Str.ofString "!").length = 1 := by decide +kernel
        rw [this]; simp; omega
      simp only [(L8.keep0 f9).i, List.map_cons, List.getElem?_cons_zero, Option.map_some, wO_some, add_ss, if_pos e2]
      have BA := (B9.app [AO.lst [D.str (n0 ++ (Str.ofString "!")), D.str (Str.ofString "x-")]]).l
      have fA : Fm [] h9 (h9 ++ [AO.lst [D.str (n0 ++ (Str.ofString "!")), D.str (Str.ofString "x-")]]) := (Fm.refl _ _).app _
      have CA := (Ls.new h9 [D.str (n0 ++ (Str.ofString "!")), D.str (Str.ofString "x-")]).l
      rw [add_ll, BA, CA]
      dsimp only
      rw [if_pos (by simp; omega), wO_some]
      have wA := (g8.rw.keep f9).keep fA
      have gA : Gr 4 h8 (h9 ++ [AO.lst [D.str (n0 ++ (Str.ofString "!")), D.str (Str.ofString "x-")]]) := ⟨(f9.trans fA).of0, wA⟩
      generalize h9 ++ [AO.lst [D.str (n0 ++ (Str.ofString "!")), D.str (Str.ofString "x-")]] = hA at *
      refine pick_ok (wA.app _) (Ls.new hA _).i (by simp) (by simp; omega) (fun d hB hd gB => ⟨?_, (gA.app _).trans gB⟩) (by have := wA.lt; omega)
      have : ∃ y ∈ (dash :: dash :: dash :: n0 :: nr) ++ [n0 ++ (Str.ofString "!"), Str.ofString "x-"], D.str y = d := List.mem_map.mp (by simpa using hd)
      obtain ⟨y, _, e⟩ := this
      exact ⟨y, e.symm⟩
    have P8 := P7.gr g8 g7.rw.is
    have T8 := T7.gr g8 (by decide)
    have R8 := g8.rw
    have hwl : ws.length ≤ 25 := by simp at hl8; omega
    simp only [L8.i, wO_some, sqI_tup]
    refine wLc_mapM (dec := D.str) (fun w : Str => .int (if !decide (w = dash) then 1 else 0)) (by simp; omega) (fun _ _ => trivial) (fun x h9 hx f9 => by simp [dash]) (fun h9 f9 L9 => ?_)
    have P9 := P8.keep0 f9
    have T9 := T8.keep f9 (by simp)
    have R9 := R8.keep f9
    have L9 : Ls h9 h8.length ((ws.map fun w => if !decide (w = dash) then (1 : Int) else 0).map D.int) := by rw [List.map_map]; exact L9
    have n8 : h8.length ≠ 4 := by have := R8.lt; omega
    generalize h8.length = ni at *
    refine strikes_in_ok (by omega) fun hA fA => ?_
    have LA := L9.keep0 fA
    rw [sum_intsK LA.i, wO_some, nS_sum]
    refine alike_ok 11 _ _ _ rfl fun hB fB => ?_
    rw [tru_bl, wT_some, and_iff_right rfl]
    refine strikes_in_ok (by omega) fun hC fC => ?_
    refine wLc_pureM (dec := D.str) (fun w : Str => !decide (w = dash)) (fun w => .str w) (by simp; omega) (fun _ _ => trivial) (fun w h1 hw f => by simp [dash]) (fun hD fD LD => ?_)
    refine ⟨_, LD.i, ?_⟩
    rw [List.length_map]
    refine alike_ok 11 _ _ _ rfl fun hE fE => ?_
    rw [tru_bl, wT_some, and_iff_right rfl]
    have LE := (((LA.keep0 fB).keep0 fC).keep0 fD).keep0 fE
    have FE := (((fA.trans fB).trans fC).trans fD).trans fE
    rw [len_tup, wO_some, inP_int, List.length_map]
    refine ⟨by omega, ?_⟩
    have ha := hp.apart
    have et : ((ws.length : Int)).toNat = ws.length := by omega
    rw [et]
    refine wLc_pureM (dec := fun i : Nat => D.int (0 + (i : Int) * 1)) (fun k : Nat => !decide ((nS (win ws k p.apart.toNat) : Int) ≤ p.often)) (fun k : Nat => D.int (k : Nat)) (by simp; omega) (fun _ _ => trivial) (fun k h1 hk f => ?_) (fun hF fF LF => ?_)
    · have hk2 : k < ws.length := by simpa using hk
      have L1 := LE.keep0 f
      have e0 : (0 + (k : Int) * 1) = (k : Int) := by omega
      have e1 : (k : Int) + p.apart = ((k + p.apart.toNat : Nat) : Int) := by push_cast; omega
      have e2 : ∀ xs : List D, xs = (ws.map fun w => if !decide (w = dash) then (1 : Int) else 0).map D.int → List.take (min (k + p.apart.toNat) xs.length - min k xs.length) (List.drop (min k xs.length) xs) = ((win ws k p.apart.toNat).map fun w => if !decide (w = dash) then (1 : Int) else 0).map D.int := by
        rintro xs rfl
        have n1 : min k ((ws.map fun w => if !decide (w = dash) then (1 : Int) else 0).map D.int).length = k := by simp; omega
        rw [n1]
        unfold win
        rw [List.map_take, List.map_take, List.map_drop, List.map_drop, List.take_eq_take_iff]
        simp
        omega
      rw [e0]
      simp [e1, -Int.natCast_add]
      simp only [L1.i, e2 _ rfl]
      rw [wO_some, sum_intsK (Ls.new h1 _).i, wO_some, nS_sum, gt_ii, wO_some, blP_bl]
      refine ⟨?_, (Fm.refl _ _).app _⟩
      by_cases hz : (nS (win ws k p.apart.toNat) : Int) ≤ p.often
      · rw [decide_eq_true hz, decide_eq_false (by omega)]; rfl
      · rw [decide_eq_false hz, decide_eq_true (by omega)]; rfl
    · have LG := LF.app [.lst []]
      have N := Ls.new hF []
      rw [eqo_nilL (n := 1) LG.i N.i (by decide) (by rw [List.all_map, List.all_eq_true]; intro x hx; rfl), wO_some]
      have FF : Fm [] hE (hF ++ [.lst []]) := fF.app _
      refine is_within_bound_ok hp (P9.keep0 (FE.trans FF)) (by omega) fun hG fG => ?_
      have eq : (((List.range ws.length).filter fun k => !decide ((nS (win ws k p.apart.toNat) : Int) ≤ p.often)).map fun k : Nat => D.int (k : Nat)).isEmpty = within ws p.often p.apart.toNat := by
        rw [within_fwd (by omega), Bool.eq_iff_iff]
        simp
      rw [eq]
      refine alike_ok 11 _ _ _ rfl fun hH fH => ?_
      rw [tru_bl, wT_some, and_iff_right rfl]
      have FH := ((FE.trans FF).trans fG).trans fH
      exact (hJ _ _ _).mpr ⟨_, _, _, _, _, _, _, _, _, _, _, _, _, rfl, R9.keep FH, T9.keep FH (by simp)⟩
  · obtain ⟨o2, o3, o4, o5, o6, o7, o8, o9, o10, o11, o12, o13, o14, e, R, T⟩ := (hJ _ _ _).mp Jj
    subst e
    refine ⟨trivial, ?_⟩
    simp
end MP

theorem PySem.Challenge.cw_linesure_k38_strikes_within_the_bound_holds : PySem.Challenge.rw_linesure_k38_strikes_within_the_bound.Holds := by
  exact MP.law_from (fun l q0 q1 q2 ns => MP.law_k38 l q0 q1 q2 ns)
