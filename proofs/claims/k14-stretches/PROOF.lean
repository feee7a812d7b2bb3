import PyProof.Rows.All
import Wide.All
import OpenK.AllK
import Wide.FinOn
import HandS.ForMost
import HandS.ForExc
import HandS.CallSlots
import HandS.IsInst
import HandS.Wide
import HandS.TupAny
import HandS.Style
import HandS.Deep
import HandS.StrMore
import HandS.SortInts
import HandS.More
import HandS.WordsDict
import HandS.Small
import HandS.CallRecv
import HandS.Zip
import PySem.Challenge.RW_lastingly_k14_stretches
set_option Elab.async false
set_option linter.all false
set_option maxRecDepth 100000
set_option maxHeartbeats 4000000
namespace Y
open PySem PySem.Spec PyProof.Rows L2

/-! ### values with pure tuples, a heap of what can change -/
inductive BT where
  | non | bool | int | str | tup | lst | dic
  deriving DecidableEq
def BT.nm : BT → String
  | .non => "NoneType" | .bool => "bool" | .int => "int" | .str => "str" | .tup => "tuple" | .lst => "list" | .dic => "dict"
def BT.sub : BT → BT → Bool
  | .bool, .int => true
  | a, b => decide (a = b)
inductive U where
  | non | bl (b : Bool) | int (i : Int) | str (x : Str) | tup (xs : List U) | rl (xs : List U) | ref (a : Addr) | ty (n : BT) | cls (c : Nat)
inductive GO where
  | lst (xs : List U) | dic (kvs : List (U × U)) | dit (kvs : List (U × U)) | ins (c : Nat) (fs : List (Nat × U)) | exc (c : Nat) (fs : List (Nat × U))
abbrev Gp := Addr → Option GO
def put (G : Gp) (a : Addr) (o : GO) : Gp := fun b => if b = a then some o else G b
theorem put_same {G : Gp} {a : Addr} {o : GO} : put G a o a = some o := if_pos rfl
theorem put_ne {G : Gp} {a b : Addr} {o : GO} (h : b ≠ a) : put G a o b = G b := if_neg h
theorem put_put {G : Gp} {a : Addr} {o u : GO} : put (put G a o) a u = put G a u := by
  funext b; unfold put; split <;> rfl
/-- the first is a part of the second -/
def Sub (G G' : Gp) : Prop := ∀ a o, G a = some o → G' a = some o
theorem Sub.refl (G : Gp) : Sub G G := fun _ _ h => h
theorem Sub.trans {A B C : Gp} (x : Sub A B) (y : Sub B C) : Sub A C := fun a o h => y a o (x a o h)
theorem Sub.put {G : Gp} {p : Addr} {o : GO} (h : G p = none) : Sub G (put G p o) := fun a o' e => by
  rw [put_ne]; exact e
  intro z; subst z; rw [h] at e; cases e
theorem ne_put {G : Gp} {a p : Addr} {o : GO} (h : G a = some o) (n : G p = none) : a ≠ p := fun z => by
  subst z; rw [h] at n; cases n

abbrev SU := List (Option U)
abbrev UK := U → Gp → Prop
abbrev XU := Nat → List (Nat × U) → Gp → Prop
abbrev XS := Nat → List (Nat × U) → SU → Gp → Prop
abbrev SpU := List U → Gp → UK → XU → Prop
structure EU where
  nx : SU → Gp → Prop
  rt : UK
  bk : SU → Gp → Prop := fun _ _ => False
  ct : SU → Gp → Prop := fun _ _ => False

/-- the classes' places, the fields' names -/
structure Tb where
  cA : Nat → Addr
  nm : Nat → Str
  inj : ∀ a b, nm a = nm b → a = b

/-- a tuple that stands: tracked, or of the written part -/
def TQ (K : PySem.W.Frag) (H : Hp) (a : Addr) (xs : List V) : Prop :=
  H a = some (.tup xs) ∨ ∃ (o : Obj) (its : Array Value) (n : Nat), K.lookup a = some o ∧ o.cls = .type "tuple" ∧ o.data = .seq its n ∧ its.size ≤ sizeLine ∧ Vals xs its.toList
theorem TQ.sq {K : PySem.W.Frag} {H : Hp} {a : Addr} {xs : List V} (h : TQ K H a xs) : SqT K H a xs := by
  rcases h with h | h
  · exact .inl (.inl h)
  · exact .inr h
/-- a list that stands, never written: the script -/
def LQ (K : PySem.W.Frag) (H : Hp) (a : Addr) (xs : List V) : Prop :=
  (∃ o, H a = some (.frz o (.lst xs))) ∨ ∃ (o : Obj) (its : Array Value) (n : Nat), K.lookup a = some o ∧ o.cls = .type "list" ∧ o.dict = none ∧ o.data = .seq its n ∧ its.size ≤ sizeLine ∧ Vals xs its.toList
theorem LQ.sq {K : PySem.W.Frag} {H : Hp} {a : Addr} {xs : List V} (h : LQ K H a xs) : SqL K H a xs := by
  rcases h with ⟨o, h⟩ | h
  · exact .inl (.inr ⟨o, h⟩)
  · exact .inr h
mutual
inductive RU (T : Tb) (K : PySem.W.Frag) (H : Hp) : U → V → Prop
  | non : RU T K H .non .non
  | bl (b : Bool) : RU T K H (.bl b) (.bl b)
  | int (i : Int) : RU T K H (.int i) (.int i)
  | str (x : Str) : RU T K H (.str x) (.str x)
  | ref (a : Addr) : RU T K H (.ref a) (.ref a)
  | ty (n : BT) : RU T K H (.ty n) (.ty n.nm)
  | cls (c : Nat) : RU T K H (.cls c) (.ref (T.cA c))
  | tup {a : Addr} {xs : List V} {us : List U} : TQ K H a xs → RUs T K H us xs → RU T K H (.tup us) (.ref a)
  | rl {a : Addr} {xs : List V} {us : List U} : LQ K H a xs → RUs T K H us xs → RU T K H (.rl us) (.ref a)
inductive RUs (T : Tb) (K : PySem.W.Frag) (H : Hp) : List U → List V → Prop
  | nil : RUs T K H [] []
  | cons {u : U} {us : List U} {v : V} {vs : List V} : RU T K H u v → RUs T K H us vs → RUs T K H (u :: us) (v :: vs)
end
/-- tuples stand, and lists that are never written -/
structure TL (K : PySem.W.Frag) (H H' : Hp) : Prop where
  tq : ∀ a xs, TQ K H a xs → TQ K H' a xs
  lq : ∀ a xs, LQ K H a xs → LQ K H' a xs
theorem TL.refl {K : PySem.W.Frag} (H : Hp) : TL K H H := ⟨fun _ _ h => h, fun _ _ h => h⟩
theorem TL.trans {K : PySem.W.Frag} {A B C : Hp} (x : TL K A B) (y : TL K B C) : TL K A C := ⟨fun a o h => y.tq a o (x.tq a o h), fun a o h => y.lq a o (x.lq a o h)⟩
def isTup : Option HO → Bool
  | some (.tup _) => true
  | some (.frz _ _) => true
  | _ => false
theorem TL.upd {K : PySem.W.Frag} {H : Hp} {p : Addr} {o : HO} (h : isTup (H p) = false) : TL K H (upd H p o) := ⟨fun a xs q => by
  rcases q with q | q
  · refine .inl ?_
    rw [upd_ne]; exact q
    intro z; subst z; rw [q] at h; cases h
  · exact .inr q, fun a xs q => by
  rcases q with ⟨ob, q⟩ | q
  · refine .inl ⟨ob, ?_⟩
    rw [upd_ne]; exact q
    intro z; subst z; rw [q] at h; cases h
  · exact .inr q⟩
theorem TL.new {K : PySem.W.Frag} {H : Hp} {p : Addr} {o : HO} (h : H p = none) : TL K H (L2.upd H p o) := TL.upd (by rw [h]; rfl)
mutual
theorem RU.mono {T : Tb} {K : PySem.W.Frag} {H H' : Hp} (t : TL K H H') : ∀ (u : U) (v : V), RU T K H u v → RU T K H' u v
  | .non, _, h => by cases h; exact .non
  | .bl _, _, h => by cases h; exact .bl _
  | .int _, _, h => by cases h; exact .int _
  | .str _, _, h => by cases h; exact .str _
  | .ref _, _, h => by cases h; exact .ref _
  | .ty _, _, h => by cases h; exact .ty _
  | .cls _, _, h => by cases h; exact .cls _
  | .tup us, _, h => by
    cases h with
    | tup q r => exact .tup (t.tq _ _ q) (RUs.mono t us _ r)
  | .rl us, _, h => by
    cases h with
    | rl q r => exact .rl (t.lq _ _ q) (RUs.mono t us _ r)
theorem RUs.mono {T : Tb} {K : PySem.W.Frag} {H H' : Hp} (t : TL K H H') : ∀ (us : List U) (vs : List V), RUs T K H us vs → RUs T K H' us vs
  | [], _, h => by cases h; exact .nil
  | u :: us, _, h => by
    cases h with
    | cons a b => exact .cons (RU.mono t u _ a) (RUs.mono t us _ b)
end
section
variable {T : Tb} {K : PySem.W.Frag} {H H' : Hp}
theorem RUs.length : ∀ {us : List U} {vs : List V}, RUs T K H us vs → us.length = vs.length
  | [], _, h => by cases h; rfl
  | u :: us, _, h => by
    cases h with
    | cons a b => rw [List.length_cons, List.length_cons, RUs.length b]
theorem RUs.get : ∀ {us : List U} {vs : List V} {i : Nat} {u : U}, RUs T K H us vs → us[i]? = some u → ∃ v, vs[i]? = some v ∧ RU T K H u v
  | [], _, _, _, _, e => by simp at e
  | u :: us, _, 0, _, h, e => by
    cases h with
    | cons a b => simp at e; subst e; exact ⟨_, rfl, a⟩
  | u :: us, _, i + 1, x, h, e => by
    cases h with
    | cons a b =>
      obtain ⟨v, h1, h2⟩ := RUs.get (i := i) (u := x) b (by simpa using e)
      exact ⟨v, by simpa using h1, h2⟩
theorem RUs.getV : ∀ {us : List U} {vs : List V} {i : Nat} {v : V}, RUs T K H us vs → vs[i]? = some v → ∃ u, us[i]? = some u ∧ RU T K H u v
  | [], _, _, _, h, e => by cases h; simp at e
  | u :: us, _, 0, _, h, e => by
    cases h with
    | cons a b => simp at e; subst e; exact ⟨_, rfl, a⟩
  | u :: us, _, i + 1, x, h, e => by
    cases h with
    | cons a b =>
      obtain ⟨v, h1, h2⟩ := RUs.getV (i := i) (v := x) b (by simpa using e)
      exact ⟨v, by simpa using h1, h2⟩
theorem RUs.append : ∀ {us ws : List U} {vs zs : List V}, RUs T K H us vs → RUs T K H ws zs → RUs T K H (us ++ ws) (vs ++ zs)
  | [], _, _, _, h, q => by cases h; exact q
  | u :: us, _, _, _, h, q => by
    cases h with
    | cons a b => exact .cons a (RUs.append b q)
theorem RUs.take : ∀ {us : List U} {vs : List V} (n : Nat), RUs T K H us vs → RUs T K H (us.take n) (vs.take n)
  | _, _, 0, _ => .nil
  | [], _, _ + 1, h => by cases h; exact .nil
  | u :: us, _, n + 1, h => by
    cases h with
    | cons a b => exact .cons a (RUs.take n b)
theorem RUs.drop : ∀ {us : List U} {vs : List V} (n : Nat), RUs T K H us vs → RUs T K H (us.drop n) (vs.drop n)
  | _, _, 0, h => h
  | [], _, _ + 1, h => by cases h; exact .nil
  | u :: us, _, n + 1, h => by
    cases h with
    | cons a b => exact RUs.drop n b
theorem RUs.set {u : U} {v : V} (r : RU T K H u v) : ∀ {us : List U} {vs : List V} (i : Nat), RUs T K H us vs → RUs T K H (us.set i u) (vs.set i v)
  | [], _, _, h => by cases h; exact .nil
  | x :: us, _, 0, h => by
    cases h with
    | cons a b => exact .cons r b
  | x :: us, _, i + 1, h => by
    cases h with
    | cons a b => exact .cons a (RUs.set r i b)
theorem RUs.ints : ∀ (ns : List Int), RUs T K H (ns.map U.int) (ns.map V.int)
  | [] => .nil
  | n :: ns => .cons (.int n) (RUs.ints ns)
theorem RUs.strs : ∀ (ns : List Str), RUs T K H (ns.map U.str) (ns.map V.str)
  | [] => .nil
  | n :: ns => .cons (.str n) (RUs.strs ns)
end

/-! ### keys and dicts -/
def keyU : U → Option Key
  | .int i => some (.inl i)
  | .str x => some (.inr x)
  | _ => none
def keysU : List U → Option (List Key)
  | [] => some []
  | u :: us => match keyU u, keysU us with
    | some k, some ks => some (k :: ks)
    | _, _ => none
/-- the pairs of a dict: keys ints and texts; keys flat tuples of them -/
inductive DK (T : Tb) (K : PySem.W.Frag) (H : Hp) : List (U × U) → List (Key × V) → Prop
  | nil : DK T K H [] []
  | cons {u x : U} {k : Key} {v : V} {r : List (U × U)} {q : List (Key × V)} : keyU u = some k → RU T K H x v → DK T K H r q → DK T K H ((u, x) :: r) ((k, v) :: q)
inductive DT (T : Tb) (K : PySem.W.Frag) (H : Hp) : List (U × U) → List (List Key × V) → Prop
  | nil : DT T K H [] []
  | cons {us : List U} {x : U} {k : List Key} {v : V} {r : List (U × U)} {q : List (List Key × V)} : keysU us = some k → RU T K H x v → DT T K H r q → DT T K H ((.tup us, x) :: r) ((k, v) :: q)
inductive FR (T : Tb) (K : PySem.W.Frag) (H : Hp) : List (Nat × U) → List (Str × V) → Prop
  | nil : FR T K H [] []
  | cons {n : Nat} {x : U} {v : V} {r : List (Nat × U)} {q : List (Str × V)} : RU T K H x v → FR T K H r q → FR T K H ((n, x) :: r) ((T.nm n, v) :: q)
section
variable {T : Tb} {K : PySem.W.Frag} {H H' : Hp}
theorem DK.mono (t : TL K H H') : ∀ {a : List (U × U)} {b : List (Key × V)}, DK T K H a b → DK T K H' a b
  | _, _, .nil => .nil
  | _, _, .cons e r q => .cons e (RU.mono t _ _ r) (DK.mono t q)
theorem DT.mono (t : TL K H H') : ∀ {a : List (U × U)} {b : List (List Key × V)}, DT T K H a b → DT T K H' a b
  | _, _, .nil => .nil
  | _, _, .cons e r q => .cons e (RU.mono t _ _ r) (DT.mono t q)
theorem FR.mono (t : TL K H H') : ∀ {a : List (Nat × U)} {b : List (Str × V)}, FR T K H a b → FR T K H' a b
  | _, _, .nil => .nil
  | _, _, .cons r q => .cons (RU.mono t _ _ r) (FR.mono t q)
end

/-! ### the heaps -/
def RG (T : Tb) (K : PySem.W.Frag) (H : Hp) (a : Addr) : GO → Prop
  | .lst us => ∃ vs, H a = some (.lst vs) ∧ RUs T K H us vs
  | .dic kvs => ∃ q, H a = some (.dK q) ∧ DK T K H kvs q
  | .dit kvs => ∃ q, H a = some (.dT q) ∧ DT T K H kvs q
  | .ins c fs => ∃ dx q, H a = some (.ins (T.cA c) dx q) ∧ FR T K H fs q
  | .exc c fs => False
def Abs (T : Tb) (K : PySem.W.Frag) (H : Hp) (G : Gp) : Prop := ∀ a o, G a = some o → RG T K H a o
def RS (T : Tb) (K : PySem.W.Frag) (H : Hp) (σ : SU) (σv : L2.St) : Prop := σ.length = σv.length ∧ ∀ (i : Nat) (u : U), σ[i]? = some (some u) → ∃ v, σv[i]? = some (some v) ∧ RU T K H u v
section
variable {T : Tb} {K : PySem.W.Frag} {H H' : Hp} {G : Gp} {a p : Addr} {o : GO} {σ : SU} {σv : L2.St}
theorem RG.stay (t : TL K H H') (h : ∀ o, H a = some o → H' a = some o) (r : RG T K H a o) : RG T K H' a o := by
  cases o with
  | lst us => obtain ⟨vs, e, q⟩ := r; exact ⟨vs, h _ e, RUs.mono t _ _ q⟩
  | dic kvs => obtain ⟨q, e, d⟩ := r; exact ⟨q, h _ e, d.mono t⟩
  | dit kvs => obtain ⟨q, e, d⟩ := r; exact ⟨q, h _ e, d.mono t⟩
  | ins c fs => obtain ⟨dx, q, e, d⟩ := r; exact ⟨dx, q, h _ e, d.mono t⟩
  | exc c fs => exact r.elim
theorem RG.there (r : RG T K H a o) : ∃ x, H a = some x := by
  cases o with
  | lst us => obtain ⟨vs, e, q⟩ := r; exact ⟨_, e⟩
  | dic kvs => obtain ⟨q, e, d⟩ := r; exact ⟨_, e⟩
  | dit kvs => obtain ⟨q, e, d⟩ := r; exact ⟨_, e⟩
  | ins c fs => obtain ⟨dx, q, e, d⟩ := r; exact ⟨_, e⟩
  | exc c fs => exact r.elim
theorem RG.notup (r : RG T K H a o) : isTup (H a) = false := by
  cases o with
  | lst us => obtain ⟨vs, e, q⟩ := r; rw [e]; rfl
  | dic kvs => obtain ⟨q, e, d⟩ := r; rw [e]; rfl
  | dit kvs => obtain ⟨q, e, d⟩ := r; rw [e]; rfl
  | ins c fs => obtain ⟨dx, q, e, d⟩ := r; rw [e]; rfl
  | exc c fs => exact r.elim
theorem Abs.free (h : Abs T K H G) (n : H p = none) : G p = none := by
  cases e : G p with
  | none => rfl
  | some o =>
    obtain ⟨x, q⟩ := (h p o e).there
    rw [n] at q; cases q
theorem Abs.sub {G' : Gp} (h : Abs T K H G) (s : Sub G' G) : Abs T K H G' := fun a o e => h a o (s a o e)
/-- one address is written -/
theorem Abs.put {ov : HO} (h : Abs T K H G) (t : isTup (H p) = false) (r : RG T K (upd H p ov) p o) : Abs T K (upd H p ov) (put G p o) := fun a o' e => by
  by_cases hp : a = p
  · subst hp; rw [put_same] at e; cases e; exact r
  · rw [put_ne hp] at e
    exact (h a o' e).stay (TL.upd t) fun x q => by rw [upd_ne hp]; exact q
/-- a new address that is not tracked above -/
theorem Abs.newV {ov : HO} (h : Abs T K H G) (n : H p = none) : Abs T K (upd H p ov) G := fun a o' e => by
  have hp : a ≠ p := fun z => by
    subst z
    obtain ⟨x, q⟩ := (h a o' e).there
    rw [n] at q; cases q
  exact (h a o' e).stay (TL.new n) fun x q => by rw [upd_ne hp]; exact q
theorem RS.mono (t : TL K H H') (r : RS T K H σ σv) : RS T K H' σ σv := ⟨r.1, fun i u e => by
  obtain ⟨v, q, w⟩ := r.2 i u e
  exact ⟨v, q, RU.mono t _ _ w⟩⟩
theorem RS.set {u : U} {v : V} (r : RS T K H σ σv) (i : Nat) (h : RU T K H u v) : RS T K H (σ.set i (some u)) (σv.set i (some v)) := by
  refine ⟨by rw [List.length_set, List.length_set]; exact r.1, fun j x e => ?_⟩
  by_cases hj : j = i
  · subst hj
    have hl : j < σ.length := by
      by_cases hl : j < σ.length
      · exact hl
      · rw [List.getElem?_eq_none (by rw [List.length_set]; omega)] at e; cases e
    rw [List.getElem?_set_self hl] at e
    cases e
    exact ⟨v, List.getElem?_set_self (by rw [← r.1]; exact hl), h⟩
  · rw [List.getElem?_set_ne (Ne.symm hj)] at e
    obtain ⟨w, q, z⟩ := r.2 j x e
    exact ⟨w, by rw [List.getElem?_set_ne (Ne.symm hj)]; exact q, z⟩
theorem RS.unset (r : RS T K H σ σv) (i : Nat) (ov : Option V) : RS T K H (σ.set i none) (σv.set i ov) := by
  refine ⟨by rw [List.length_set, List.length_set]; exact r.1, fun j x e => ?_⟩
  by_cases hj : j = i
  · subst hj
    by_cases hl : j < σ.length
    · rw [List.getElem?_set_self hl] at e; cases e
    · rw [List.getElem?_eq_none (by rw [List.length_set]; omega)] at e; cases e
  · rw [List.getElem?_set_ne (Ne.symm hj)] at e
    obtain ⟨w, q, z⟩ := r.2 j x e
    exact ⟨w, by rw [List.getElem?_set_ne (Ne.symm hj)]; exact q, z⟩
end

/-! ### readings above, lifted below -/
abbrev TEU := SU → Gp → UK → Prop
abbrev TAU := SU → Gp → (List U → Gp → Prop) → Prop
abbrev TTU := SU → Gp → (Bool → Gp → Prop) → Prop
abbrev TSU := EU → SU → Gp → Prop
abbrev TGU := U → SU → Gp → (SU → Gp → Prop) → Prop
/-- what stands behind an expression -/
def QV (T : Tb) (K : PySem.W.Frag) (H : Hp) (Q : UK) : VK := fun v H' => ∃ x G', TL K H H' ∧ Abs T K H' G' ∧ RU T K H' x v ∧ Q x G'
def QVs (T : Tb) (K : PySem.W.Frag) (H : Hp) (Q : List U → Gp → Prop) (vs : List V) (H' : Hp) : Prop := ∃ xs G', TL K H H' ∧ Abs T K H' G' ∧ RUs T K H' xs vs ∧ Q xs G'
def QB (T : Tb) (K : PySem.W.Frag) (H : Hp) (Q : Bool → Gp → Prop) (b : Bool) (H' : Hp) : Prop := ∃ G', TL K H H' ∧ Abs T K H' G' ∧ Q b G'
def QN (T : Tb) (K : PySem.W.Frag) (H : Hp) (Q : SU → Gp → Prop) (σv : L2.St) (H' : Hp) : Prop := ∃ σ G', TL K H H' ∧ Abs T K H' G' ∧ RS T K H' σ σv ∧ Q σ G'
def lE (T : Tb) (K : PySem.W.Frag) (t : TEU) : TE := fun σv H Qv => ∃ σ G Q, RS T K H σ σv ∧ Abs T K H G ∧ t σ G Q ∧ ∀ v H', QV T K H Q v H' → Qv v H'
def lA (T : Tb) (K : PySem.W.Frag) (t : TAU) : TA := fun σv H Qv => ∃ σ G Q, RS T K H σ σv ∧ Abs T K H G ∧ t σ G Q ∧ ∀ v H', QVs T K H Q v H' → Qv v H'
def lT (T : Tb) (K : PySem.W.Frag) (t : TTU) : TT := fun σv H Qv => ∃ σ G Q, RS T K H σ σv ∧ Abs T K H G ∧ t σ G Q ∧ ∀ v H', QB T K H Q v H' → Qv v H'
def lS (T : Tb) (K : PySem.W.Frag) (t : TSU) : TS := fun D σv H => ∃ σ G DU, RS T K H σ σv ∧ Abs T K H G ∧ t DU σ G ∧ (∀ σ' H', QN T K H DU.nx σ' H' → D.nx σ' H') ∧ (∀ v H', QV T K H DU.rt v H' → D.rt v H') ∧
  (∀ σ' H', QN T K H DU.bk σ' H' → D.bk σ' H') ∧ (∀ σ' H', QN T K H DU.ct σ' H' → D.ct σ' H')
def lG (T : Tb) (K : PySem.W.Frag) (t : TGU) : TG := fun v σv H Qv => ∃ x σ G Q, RU T K H x v ∧ RS T K H σ σv ∧ Abs T K H G ∧ t x σ G Q ∧ ∀ σ' H', QN T K H Q σ' H' → Qv σ' H'
theorem PEi {X : Cx} {e : Expr} {t t' : TE} (h : PE X e t') (i : ∀ σ H Q, t σ H Q → t' σ H Q) : PE X e t := ⟨fun pins s σ H Q I q => h.run pins s σ H Q I (i σ H Q q)⟩
theorem PTi {X : Cx} {e : Expr} {t t' : TT} (h : PT X e t') (i : ∀ σ H Q, t σ H Q → t' σ H Q) : PT X e t := ⟨fun pins s σ H Q I q => h.run pins s σ H Q I (i σ H Q q)⟩
theorem PWi {X : Cx} {e : Expr} {t t' : TT} (h : PW X e t') (i : ∀ σ H Q, t σ H Q → t' σ H Q) : PW X e t := ⟨fun wh pins s σ H Q I q => h.run wh pins s σ H Q I (i σ H Q q)⟩
theorem PAi {X : Cx} {e : List Expr} {t t' : TA} (h : PA X e t') (i : ∀ σ H Q, t σ H Q → t' σ H Q) : PA X e t := ⟨fun p pins s σ H Q I q => h.run p pins s σ H Q I (i σ H Q q)⟩
theorem PSi {X : Cx} {e : Stmt} {t t' : TS} (h : PS X e t') (i : ∀ D σ H, t D σ H → t' D σ H) : PS X e t := ⟨fun pins s σ H D I q => h.run pins s σ H D I (i D σ H q)⟩
theorem PSsi {X : Cx} {e : List Stmt} {t t' : TS} (h : PSs X e t') (i : ∀ D σ H, t D σ H → t' D σ H) : PSs X e t := ⟨fun pins s σ H D I q => h.run pins s σ H D I (i D σ H q)⟩
theorem PGi {X : Cx} {e : Expr} {t t' : TG} (h : PG X e t') (i : ∀ v σ H Q, t v σ H Q → t' v σ H Q) : PG X e t := ⟨fun pins s σ H v u Q I r q => h.run pins s σ H v u Q I r (i v σ H Q q)⟩
section
variable {T : Tb} {K : PySem.W.Frag} {H H1 : Hp} {G : Gp}
/-- the heap stands -/
theorem QV.same {Q : UK} {x : U} {v : V} (ab : Abs T K H G) (r : RU T K H x v) (q : Q x G) : QV T K H Q v H := ⟨x, G, TL.refl H, ab, r, q⟩
theorem QV.from {Q : UK} {v : V} {H' : Hp} (t : TL K H H1) (q : QV T K H1 Q v H') : QV T K H Q v H' := by
  obtain ⟨x, G', t', ab, r, q⟩ := q
  exact ⟨x, G', t.trans t', ab, r, q⟩
theorem QVs.from {Q : List U → Gp → Prop} {v : List V} {H' : Hp} (t : TL K H H1) (q : QVs T K H1 Q v H') : QVs T K H Q v H' := by
  obtain ⟨x, G', t', ab, r, q⟩ := q
  exact ⟨x, G', t.trans t', ab, r, q⟩
theorem QB.from {Q : Bool → Gp → Prop} {v : Bool} {H' : Hp} (t : TL K H H1) (q : QB T K H1 Q v H') : QB T K H Q v H' := by
  obtain ⟨G', t', ab, q⟩ := q
  exact ⟨G', t.trans t', ab, q⟩
theorem QN.from {Q : SU → Gp → Prop} {v : L2.St} {H' : Hp} (t : TL K H H1) (q : QN T K H1 Q v H') : QN T K H Q v H' := by
  obtain ⟨x, G', t', ab, r, q⟩ := q
  exact ⟨x, G', t.trans t', ab, r, q⟩
/-- a new tuple -/
theorem QV.tup {Q : UK} {us : List U} {vs : List V} {p : Addr} (ab : Abs T K H G) (n : H p = none) (r : RUs T K H us vs) (q : Q (.tup us) G) : QV T K H Q (.ref p) (upd H p (.tup vs)) :=
  ⟨.tup us, G, TL.new n, ab.newV n, .tup (.inl upd_same) (RUs.mono (TL.new n) _ _ r), q⟩
/-- a new list -/
theorem QV.lst {Q : UK} {us : List U} {vs : List V} {p : Addr} (ab : Abs T K H G) (n : H p = none) (r : RUs T K H us vs) (q : ∀ p, G p = none → Q (.ref p) (put G p (.lst us))) : QV T K H Q (.ref p) (upd H p (.lst vs)) :=
  ⟨.ref p, put G p (.lst us), TL.new n, ab.put (by rw [n]; rfl) ⟨vs, upd_same, RUs.mono (TL.new n) _ _ r⟩, .ref p, q p (ab.free n)⟩
end
end Y

namespace Y
open PySem PySem.Spec PyProof.Rows L2

/-! ### reading lists and data -/
def lsG : Option GO → Option (List U)
  | some (.lst xs) => some xs
  | _ => none
def rdL (G : Gp) : U → Option (List U)
  | .tup xs => some xs
  | .rl xs => some xs
  | .ref a => lsG (G a)
  | _ => none
def datL (f : U → Option PyData) : List U → Option (List PyData)
  | [] => some []
  | u :: us => match f u, datL f us with
    | some d, some ds => some (d :: ds)
    | _, _ => none
/-- the data that a value reads as -/
def dat : Nat → Gp → U → Option PyData
  | 0, _, _ => none
  | _ + 1, _, .non => some .none
  | _ + 1, _, .bl b => some (.bool b)
  | _ + 1, _, .int i => some (.int i)
  | _ + 1, _, .str x => some (.str x)
  | n + 1, G, .tup xs => match datL (dat n G) xs with
    | some ds => some (.tuple ds)
    | none => none
  | n + 1, G, .rl xs => match datL (dat n G) xs with
    | some ds => some (.list ds)
    | none => none
  | n + 1, G, .ref a => match lsG (G a) with
    | some xs => match datL (dat n G) xs with
      | some ds => some (.list ds)
      | none => none
    | none => none
  | _ + 1, _, .ty _ => none
  | _ + 1, _, .cls _ => none
section
variable {T : Tb} {K : PySem.W.Frag} {H : Hp} {G : Gp}
theorem Abs.list {a : Addr} {xs : List U} (ab : Abs T K H G) (e : lsG (G a) = some xs) : ∃ vs, Rd H a (.lst vs) ∧ RUs T K H xs vs := by
  cases q : G a with
  | none => rw [q] at e; cases e
  | some o =>
    rw [q] at e
    have r := ab a o q
    cases o with
    | lst us => cases e; obtain ⟨vs, h, r⟩ := r; exact ⟨vs, .inl h, r⟩
    | dic _ => cases e
    | dit _ => cases e
    | ins _ _ => cases e
    | exc _ _ => cases e
theorem datL_dp {f : U → Option PyData} (hf : ∀ u d v, f u = some d → RU T K H u v → Dp K H v d) : ∀ {us : List U} {vs : List V} {ds : List PyData}, datL f us = some ds → RUs T K H us vs → DpAll K H vs ds
  | [], _, _, e, r => by cases r; cases e; exact .nil
  | u :: us, _, _, e, r => by
    cases r with
    | cons a b =>
      unfold datL at e
      cases h1 : f u with
      | none => rw [h1] at e; cases e
      | some d =>
        cases h2 : datL f us with
        | none => rw [h1, h2] at e; cases e
        | some ds =>
          rw [h1, h2] at e
          cases e
          exact .cons (hf _ _ _ h1 a) (datL_dp hf h2 b)
theorem dat_dp (ab : Abs T K H G) : ∀ (n : Nat) (u : U) (d : PyData) (v : V), dat n G u = some d → RU T K H u v → Dp K H v d
  | 0, _, _, _, e, _ => by cases e
  | n + 1, .non, _, _, e, r => by cases e; cases r; exact .non
  | n + 1, .bl _, _, _, e, r => by cases e; cases r; exact .bl _
  | n + 1, .int _, _, _, e, r => by cases e; cases r; exact .int _
  | n + 1, .str _, _, _, e, r => by cases e; cases r; exact .str _
  | n + 1, .ty _, _, _, e, _ => by cases e
  | n + 1, .cls _, _, _, e, _ => by cases e
  | n + 1, .tup xs, _, _, e, r => by
    cases r with
    | tup q r =>
      unfold dat at e
      cases h : datL (dat n G) xs with
      | none => rw [h] at e; cases e
      | some ds =>
        rw [h] at e
        cases e
        exact .tup q.sq (datL_dp (fun u d v => dat_dp ab n u d v) h r)
  | n + 1, .rl xs, _, _, e, r => by
    cases r with
    | rl q r =>
      unfold dat at e
      cases h : datL (dat n G) xs with
      | none => rw [h] at e; cases e
      | some ds =>
        rw [h] at e
        cases e
        exact .lst q.sq (datL_dp (fun u d v => dat_dp ab n u d v) h r)
  | n + 1, .ref a, _, _, e, r => by
    cases r
    unfold dat at e
    cases hl : lsG (G a) with
    | none => rw [hl] at e; cases e
    | some xs =>
      rw [hl] at e
      cases h : datL (dat n G) xs with
      | none => simp only [h] at e; cases e
      | some ds =>
        simp only [h] at e
        cases e
        obtain ⟨vs, hr, rs⟩ := ab.list hl
        exact .lst (.inl hr) (datL_dp (fun u d v => dat_dp ab n u d v) h rs)
end

/-! ### operators above -/
abbrev R2U := U → U → Gp → UK → Prop
def ImpR (T : Tb) (K : PySem.W.Frag) (r : R2) (rU : R2U) : Prop := ∀ (H : Hp) (G : Gp) (x y : U) (xv yv : V) (Q : UK) (Qv : VK), Abs T K H G → RU T K H x xv → RU T K H y yv → rU x y G Q → (∀ v H', QV T K H Q v H' → Qv v H') → r xv yv H Qv
def OpL (T : Tb) (X : Cx) (f : Value → Value → Sem Value) (rU : R2U) : Prop := ∃ r, OpR X f r ∧ ImpR T X.K r rU
theorem OpL.or {T : Tb} {X : Cx} {f : Value → Value → Sem Value} {r r' : R2U} (h : OpL T X f r) (h' : OpL T X f r') : OpL T X f (fun x y G Q => r x y G Q ∨ r' x y G Q) := by
  obtain ⟨a, ha, ia⟩ := h
  obtain ⟨b, hb, ib⟩ := h'
  refine ⟨_, ha.or hb, fun H G x y xv yv Q Qv ab rx ry h q => ?_⟩
  rcases h with h | h
  · exact .inl (ia H G x y xv yv Q Qv ab rx ry h q)
  · exact .inr (ib H G x y xv yv Q Qv ab rx ry h q)
theorem OpL.imp {T : Tb} {X : Cx} {f : Value → Value → Sem Value} {r r' : R2U} (h : OpL T X f r) (i : ∀ x y G Q, r' x y G Q → r x y G Q) : OpL T X f r' := by
  obtain ⟨a, ha, ia⟩ := h
  exact ⟨a, ha, fun H G x y xv yv Q Qv ab rx ry h q => ia H G x y xv yv Q Qv ab rx ry (i _ _ _ _ h) q⟩
/-- two ints give an int, a bool -/
def rII (C : Int → Int → Prop) (g : Int → Int → U) : R2U := fun x y G Q => ∃ i j, x = .int i ∧ y = .int j ∧ C i j ∧ Q (g i j) G
section
variable {T : Tb} {X : Cx}
theorem opl_I {f : Value → Value → Sem Value} {C : Int → Int → Prop} {g : Int → Int → Int} (h : OpR X f (rI C fun i j => .int (g i j))) : OpL T X f (rII C fun i j => .int (g i j)) :=
  ⟨_, h, fun H G x y xv yv Q Qv ab rx ry h q => by
    obtain ⟨i, j, rfl, rfl, c, h⟩ := h
    cases rx; cases ry
    exact ⟨i, j, rfl, rfl, c, q _ _ (QV.same ab (.int _) h)⟩⟩
theorem opl_I0 {f : Value → Value → Sem Value} {g : Int → Int → Int} (h : OpR X f (rI0 fun i j => .int (g i j))) : OpL T X f (rII (fun _ _ => True) fun i j => .int (g i j)) :=
  ⟨_, h, fun H G x y xv yv Q Qv ab rx ry h q => by
    obtain ⟨i, j, rfl, rfl, c, h⟩ := h
    cases rx; cases ry
    exact ⟨i, j, rfl, rfl, q _ _ (QV.same ab (.int _) h)⟩⟩
theorem opl_B0 {f : Value → Value → Sem Value} {g : Int → Int → Bool} (h : OpR X f (rI0 fun i j => .bl (g i j))) : OpL T X f (rII (fun _ _ => True) fun i j => .bl (g i j)) :=
  ⟨_, h, fun H G x y xv yv Q Qv ab rx ry h q => by
    obtain ⟨i, j, rfl, rfl, c, h⟩ := h
    cases rx; cases ry
    exact ⟨i, j, rfl, rfl, q _ _ (QV.same ab (.bl _) h)⟩⟩
end
/-! #### + -/
def addU (x y : U) (G : Gp) (Q : UK) : Prop := match x, y with
  | .int i, .int j => Q (.int (i + j)) G
  | .str a, .str b => a.length + b.length ≤ sizeLine ∧ Q (.str (a ++ b)) G
  | .tup a, .tup b => a.length + b.length ≤ sizeLine ∧ Q (.tup (a ++ b)) G
  | .ref a, .ref b => match G a, G b with
    | some (.lst xs), some (.lst ys) => xs.length + ys.length ≤ sizeLine ∧ ∀ p, G p = none → Q (.ref p) (put G p (.lst (xs ++ ys)))
    | _, _ => False
  | _, _ => False
def MulOk (i j : Int) : Prop := CMul i j ∨ CMulW i j
def mulU (x y : U) (G : Gp) (Q : UK) : Prop := match x, y with
  | .int i, .int j => MulOk i j ∧ Q (.int (i * j)) G
  | .ref a, .int k => match G a with
    | some (.lst xs) => 0 ≤ k ∧ k < 2 ^ 63 ∧ xs.length * k.toNat ≤ sizeLine ∧ ∀ p, G p = none → Q (.ref p) (put G p (.lst (List.replicate k.toNat xs).flatten))
    | _ => False
  | _, _ => False
def intU (C : Int → Int → Prop) (g : Int → Int → U) (x y : U) (G : Gp) (Q : UK) : Prop := match x, y with
  | .int i, .int j => C i j ∧ Q (g i j) G
  | _, _ => False
def DivOk (_ j : Int) : Prop := 0 < j ∧ j.natAbs.log2 < 9000
def PowOk (i j : Int) : Prop := 0 ≤ j ∧ j ≤ 1000000 ∧ i.natAbs < 2 ^ 64
def noU (_ _ : U) (_ : Gp) (_ : UK) : Prop := False
def binU : Operator → R2U
  | .Add => addU
  | .Sub => intU (fun _ _ => True) fun i j => .int (i - j)
  | .Mult => mulU
  | .FloorDiv => intU DivOk fun i j => .int (i / j)
  | .Mod => intU (fun _ j => 0 < j) fun i j => .int (i % j)
  | .Pow => intU PowOk fun i j => .int (i ^ j.toNat)
  | .LShift => intU PowOk fun i j => .int (i * 2 ^ j.toNat)
  | .RShift => intU (fun _ j => 0 ≤ j) fun i j => .int (i / 2 ^ j.toNat)
  | .BitAnd => intU (fun _ _ => True) fun i j => .int (Builtin.bitAnd i j)
  | _ => noU
section
variable {T : Tb} {X : Cx}
theorem intU_rII {C : Int → Int → Prop} {g : Int → Int → U} {x y : U} {G : Gp} {Q : UK} (h : intU C g x y G Q) : rII C g x y G Q := by
  unfold intU at h
  split at h
  · exact ⟨_, _, rfl, rfl, h.1, h.2⟩
  · exact h.elim
theorem opl_never {f : Value → Value → Sem Value} : OpL T X f noU := ⟨fun _ _ _ _ => False, fun pins s σ H x y v u Q I rx ry h => h.elim, fun H G x y xv yv Q Qv ab rx ry h q => h.elim⟩
theorem opl_str : OpL T X (binaryOp .Add) (fun x y G Q => ∃ a b, x = .str a ∧ y = .str b ∧ a.length + b.length ≤ sizeLine ∧ Q (.str (a ++ b)) G) :=
  ⟨_, op_add_str, fun H G x y xv yv Q Qv ab rx ry h q => by
    obtain ⟨a, b, rfl, rfl, c, h⟩ := h
    cases rx; cases ry
    exact ⟨a, b, rfl, rfl, c, q _ _ (QV.same ab (.str _) h)⟩⟩
theorem RUs.nil_iff {T : Tb} {K : PySem.W.Frag} {H : Hp} {us : List U} {vs : List V} (r : RUs T K H us vs) : us = [] ↔ vs = [] := by
  have e := r.length
  constructor
  · intro h; subst h; exact List.length_eq_zero_iff.mp e.symm
  · intro h; subst h; exact List.length_eq_zero_iff.mp e
theorem opl_tup : OpL T X (binaryOp .Add) (fun x y G Q => ∃ a b, x = .tup a ∧ y = .tup b ∧ a.length + b.length ≤ sizeLine ∧ Q (.tup (a ++ b)) G) :=
  ⟨_, op_catA, fun H G x y xv yv Q Qv ab rx ry h q => by
    obtain ⟨a, b, rfl, rfl, c, h⟩ := h
    cases rx with
    | @tup pa xs _ sa ra =>
      cases ry with
      | @tup pb ys _ sb rb =>
        refine ⟨pa, pb, xs, ys, rfl, rfl, sa.sq, sb.sq, by rw [← ra.length, ← rb.length]; exact c, fun e => ?_, fun e1 e2 => ?_, fun e1 e2 p n => ?_⟩
        · have e' := ra.nil_iff.mpr e
          subst e'
          exact q _ _ (QV.same ab (.tup sb rb) h)
        · have e' := rb.nil_iff.mpr e2
          subst e'
          rw [List.append_nil] at h
          exact q _ _ (QV.same ab (.tup sa ra) h)
        · exact q _ _ (QV.tup ab n (ra.append rb) h)⟩
theorem opl_lst : OpL T X (binaryOp .Add) (fun x y G Q => ∃ a b xs ys, x = .ref a ∧ y = .ref b ∧ G a = some (.lst xs) ∧ G b = some (.lst ys) ∧ xs.length + ys.length ≤ sizeLine ∧ ∀ p, G p = none → Q (.ref p) (put G p (.lst (xs ++ ys)))) :=
  ⟨_, op_cat, fun H G x y xv yv Q Qv ab rx ry h q => by
    obtain ⟨a, b, xs, ys, rfl, rfl, ha, hb, c, h⟩ := h
    cases rx; cases ry
    obtain ⟨vs, h1, r1⟩ := ab _ _ ha
    obtain ⟨ws, h2, r2⟩ := ab _ _ hb
    exact ⟨a, b, vs, ws, rfl, rfl, h1, h2, by rw [← r1.length, ← r2.length]; exact c, fun p n => q _ _ (QV.lst ab n (r1.append r2) h)⟩⟩
theorem opl_add : OpL T X (binaryOp .Add) addU :=
  ((opl_I0 op_add).or (opl_str.or (opl_tup.or opl_lst))).imp fun x y G Q h => by
    unfold addU at h
    split at h
    · exact .inl ⟨_, _, rfl, rfl, trivial, h⟩
    · exact .inr (.inl ⟨_, _, rfl, rfl, h.1, h.2⟩)
    · exact .inr (.inr (.inl ⟨_, _, rfl, rfl, h.1, h.2⟩))
    · split at h
      · rename_i h1 h2
        exact .inr (.inr (.inr ⟨_, _, _, _, rfl, rfl, h1, h2, h.1, h.2⟩))
      · exact h.elim
    · exact h.elim
theorem rep_RUs {T : Tb} {K : PySem.W.Frag} {H : Hp} {us : List U} {vs : List V} (r : RUs T K H us vs) : ∀ n : Nat, RUs T K H (List.replicate n us).flatten (List.replicate n vs).flatten
  | 0 => .nil
  | n + 1 => by
    rw [List.replicate_succ, List.replicate_succ, List.flatten_cons, List.flatten_cons]
    exact r.append (rep_RUs r n)
theorem opl_rep : OpL T X (binaryOp .Mult) (fun x y G Q => ∃ a k xs, x = .ref a ∧ y = .int k ∧ G a = some (.lst xs) ∧ 0 ≤ k ∧ k < 2 ^ 63 ∧ xs.length * k.toNat ≤ sizeLine ∧ ∀ p, G p = none → Q (.ref p) (put G p (.lst (List.replicate k.toNat xs).flatten))) :=
  ⟨_, op_rep, fun H G x y xv yv Q Qv ab rx ry h q => by
    obtain ⟨a, k, xs, rfl, rfl, ha, h0, h1, hz, h⟩ := h
    cases rx; cases ry
    obtain ⟨vs, e1, r1⟩ := ab _ _ ha
    exact ⟨a, k, vs, rfl, rfl, e1, by omega, h1, by rw [← r1.length]; exact hz, fun p n => q _ _ (QV.lst ab n (rep_RUs r1 _) h)⟩⟩
theorem opl_mul : OpL T X (binaryOp .Mult) mulU :=
  ((opl_I op_mul).or ((opl_I op_mulW).or opl_rep)).imp fun x y G Q h => by
    unfold mulU at h
    split at h
    · rcases h with ⟨h | h, q⟩
      · exact .inl ⟨_, _, rfl, rfl, h, q⟩
      · exact .inr (.inl ⟨_, _, rfl, rfl, h, q⟩)
    · split at h
      · rename_i h1
        exact .inr (.inr ⟨_, _, _, rfl, rfl, h1, h⟩)
      · exact h.elim
    · exact h.elim
theorem opl_bin : ∀ op : Operator, OpL T X (binaryOp op) (binU op)
  | .Add => opl_add
  | .Sub => (opl_I0 op_sub).imp fun _ _ _ _ h => intU_rII h
  | .Mult => opl_mul
  | .FloorDiv => (opl_I op_fdivW).imp fun _ _ _ _ h => intU_rII h
  | .Mod => (opl_I op_mod).imp fun _ _ _ _ h => intU_rII h
  | .Pow => (opl_I op_pow).imp fun _ _ _ _ h => intU_rII h
  | .LShift => (opl_I op_shl).imp fun _ _ _ _ h => intU_rII h
  | .RShift => (opl_I op_shr).imp fun _ _ _ _ h => intU_rII h
  | .BitAnd => (opl_I0 op_and).imp fun _ _ _ _ h => intU_rII h
  | .MatMult => opl_never
  | .Div => opl_never
  | .BitOr => opl_never
  | .BitXor => opl_never
end

/-! #### comparisons -/
def scU : U → U → Bool
  | .non, .non => true | .non, .int _ => true | .int _, .non => true | .non, .bl _ => true | .bl _, .non => true | .non, .str _ => true | .str _, .non => true
  | .int _, .int _ => true | .bl _, .bl _ => true | .str _, .str _ => true
  | .int _, .str _ => true | .str _, .int _ => true | .bl _, .str _ => true | .str _, .bl _ => true
  | _, _ => false
def eqSc : U → U → Bool
  | .non, .non => true
  | .int i, .int j => decide (i = j)
  | .bl i, .bl j => decide (i = j)
  | .str i, .str j => decide (i = j)
  | _, _ => false
def eqD (G : Gp) (x y : U) (P : Bool → Prop) : Prop := match dat 20 G x, dat 20 G y with
  | some d, some e => SeqAt.shaped d = true ∧ SeqAt.shaped e = true ∧ P (PyData.eqv d e)
  | _, _ => False
def eqU (neg : Bool) (x y : U) (G : Gp) (Q : UK) : Prop := if scU x y = true then Q (.bl (if neg then !eqSc x y else eqSc x y)) G else eqD G x y fun b => Q (.bl (if neg then !b else b)) G
def fltU : U → Bool
  | .non => true | .bl _ => true | .int _ => true | .str _ => true | _ => false
def eqF : U → U → Bool
  | .non, .non => true
  | .bl a, .bl b => a == b
  | .bl a, .int b => (if a then 1 else 0) == b
  | .int a, .bl b => a == (if b then 1 else 0)
  | .int a, .int b => a == b
  | .str a, .str b => a == b
  | _, _ => false
def inF (x : U) (xs : List U) : Bool := xs.any fun y => eqF y x
def inU (neg : Bool) (x y : U) (G : Gp) (Q : UK) : Prop := match x, y with
  | .str a, .str b => (match a.cps.toList with
    | [c] => Q (.bl (if neg then !decide (c ∈ b.cps.toList) else decide (c ∈ b.cps.toList))) G
    | _ => Q (.bl (if neg then !(!(Builtin.Str.occurrences b a 0 b.length 1).isEmpty) else !(Builtin.Str.occurrences b a 0 b.length 1).isEmpty)) G)
  | x, y => match rdL G y with
    | some xs => fltU x = true ∧ xs.all fltU = true ∧ Q (.bl (if neg then !inF x xs else inF x xs)) G
    | none => False
def isU (neg : Bool) (x y : U) (G : Gp) (Q : UK) : Prop := match x, y with
  | .bl a, .bl b => Q (.bl (if neg then !decide (a = b) else decide (a = b))) G
  | .non, .non => Q (.bl (!neg)) G
  | .bl _, .non => Q (.bl neg) G
  | .int _, .non => Q (.bl neg) G
  | .str _, .non => Q (.bl neg) G
  | .tup _, .non => Q (.bl neg) G
  | .ref _, .non => Q (.bl neg) G
  | _, _ => False
def cmpU : CmpOp → R2U
  | .Eq => eqU false
  | .NotEq => eqU true
  | .Lt => intU (fun _ _ => True) fun i j => .bl (decide (i < j))
  | .LtE => intU (fun _ _ => True) fun i j => .bl (decide (i ≤ j))
  | .Gt => intU (fun _ _ => True) fun i j => .bl (decide (j < i))
  | .GtE => intU (fun _ _ => True) fun i j => .bl (decide (j ≤ i))
  | .In => inU false
  | .NotIn => inU true
  | .Is => isU false
  | .IsNot => isU true
section
variable {T : Tb} {X : Cx}
theorem scal_of {T : Tb} {K : PySem.W.Frag} {H : Hp} {x y : U} {xv yv : V} (s : scU x y = true) (rx : RU T K H x xv) (ry : RU T K H y yv) : scal xv yv = true ∧ decide (xv = yv) = eqSc x y := by
  cases x <;> cases y <;> first
    | exact absurd s Bool.false_ne_true
    | (cases rx; cases ry; exact ⟨rfl, by simp [eqSc]⟩)
theorem opl_eq (hu : X.A.units + 64 < cLine) : OpL T X (compareOp .Eq) (eqU false) :=
  ⟨_, op_eq.or (op_eqD hu), fun H G x y xv yv Q Qv ab rx ry h q => by
    unfold eqU at h
    split at h
    · rename_i s
      obtain ⟨h1, h2⟩ := scal_of s rx ry
      exact .inl ⟨h1, q _ _ (QV.same ab (.bl _) (by rw [h2]; exact h))⟩
    · unfold eqD at h
      split at h
      · rename_i d e hd he
        exact .inr ⟨d, e, dat_dp ab _ _ _ _ hd rx, dat_dp ab _ _ _ _ he ry, h.1, h.2.1, q _ _ (QV.same ab (.bl _) h.2.2)⟩
      · exact h.elim⟩
theorem opl_ne (hu : X.A.units + 64 < cLine) : OpL T X (compareOp .NotEq) (eqU true) :=
  ⟨_, op_ne.or (op_neD hu), fun H G x y xv yv Q Qv ab rx ry h q => by
    unfold eqU at h
    split at h
    · rename_i s
      obtain ⟨h1, h2⟩ := scal_of s rx ry
      exact .inl ⟨h1, q _ _ (QV.same ab (.bl _) (by rw [h2]; exact h))⟩
    · unfold eqD at h
      split at h
      · rename_i d e hd he
        exact .inr ⟨d, e, dat_dp ab _ _ _ _ hd rx, dat_dp ab _ _ _ _ he ry, h.1, h.2.1, q _ _ (QV.same ab (.bl _) h.2.2)⟩
      · exact h.elim⟩
theorem flt_of {T : Tb} {K : PySem.W.Frag} {H : Hp} {x : U} {xv : V} (f : fltU x = true) (r : RU T K H x xv) : flatV xv = true := by
  cases x <;> first
    | exact absurd f Bool.false_ne_true
    | (cases r; rfl)
theorem eqF_of {T : Tb} {K : PySem.W.Frag} {H : Hp} {x y : U} {xv yv : V} (f : fltU x = true) (g : fltU y = true) (rx : RU T K H x xv) (ry : RU T K H y yv) : eqV xv yv = eqF x y := by
  cases x <;> cases y <;> first
    | exact absurd f Bool.false_ne_true
    | exact absurd g Bool.false_ne_true
    | (cases rx; cases ry; rfl)
theorem flts_of {T : Tb} {K : PySem.W.Frag} {H : Hp} : ∀ {xs : List U} {vs : List V}, xs.all fltU = true → RUs T K H xs vs → vs.all flatV = true
  | [], _, _, r => by cases r; rfl
  | x :: xs, _, f, r => by
    cases r with
    | cons a b =>
      rw [List.all_cons, Bool.and_eq_true] at f
      rw [List.all_cons, flt_of f.1 a, flts_of f.2 b]
      rfl
theorem inF_of {T : Tb} {K : PySem.W.Frag} {H : Hp} {x : U} {xv : V} (f : fltU x = true) (rx : RU T K H x xv) : ∀ {xs : List U} {vs : List V}, xs.all fltU = true → RUs T K H xs vs → inV xv vs = inF x xs
  | [], _, _, r => by cases r; rfl
  | y :: xs, _, g, r => by
    cases r with
    | cons a b =>
      rw [List.all_cons, Bool.and_eq_true] at g
      have ih := inF_of f rx g.2 b
      unfold inV inF at ih ⊢
      rw [List.any_cons, List.any_cons, ih, eqF_of g.1 f a rx]
theorem rd_sq {K : PySem.W.Frag} {H : Hp} {G : Gp} {y : U} {yv : V} {xs : List U} (ab : Abs T K H G) (e : rdL G y = some xs) (r : RU T K H y yv) : ∃ p vs, yv = .ref p ∧ (SqL K H p vs ∨ SqT K H p vs) ∧ RUs T K H xs vs := by
  cases y with
  | tup us =>
    cases e
    cases r with
    | tup s r => exact ⟨_, _, rfl, .inr s.sq, r⟩
  | rl us =>
    cases e
    cases r with
    | rl s r => exact ⟨_, _, rfl, .inl s.sq, r⟩
  | ref a =>
    cases r
    obtain ⟨vs, h, r⟩ := ab.list e
    exact ⟨a, vs, rfl, .inl (.inl h), r⟩
  | _ => cases e
theorem opl_in : OpL T X (compareOp .In) (inU false) :=
  ⟨_, op_in_sign.or (op_in_str.or op_in_seq), fun H G x y xv yv Q Qv ab rx ry h q => by
    unfold inU at h
    split at h
    · rename_i a b
      cases rx; cases ry
      split at h
      · rename_i c e
        refine .inl ⟨c, b, ?_, rfl, q _ _ (QV.same ab (.bl _) h)⟩
        have : a = ⟨#[c]⟩ := by
          obtain ⟨l⟩ := a
          have e' : l = #[c] := by rw [← Array.toList_inj]; exact e
          rw [e']
        rw [this]
      · exact .inr (.inl ⟨a, b, rfl, rfl, q _ _ (QV.same ab (.bl _) h)⟩)
    · split at h
      · rename_i xs e
        obtain ⟨p, vs, rfl, s, r⟩ := rd_sq ab e ry
        exact .inr (.inr ⟨p, vs, rfl, s, flt_of h.1 rx, flts_of h.2.1 r, q _ _ (QV.same ab (.bl _) (by rw [inF_of h.1 rx h.2.1 r]; exact h.2.2))⟩)
      · exact h.elim⟩
theorem opl_notIn : OpL T X (compareOp .NotIn) (inU true) :=
  ⟨_, op_notIn_sign.or (op_notin_str.or op_notIn_seq), fun H G x y xv yv Q Qv ab rx ry h q => by
    unfold inU at h
    split at h
    · rename_i a b
      cases rx; cases ry
      split at h
      · rename_i c e
        refine .inl ⟨c, b, ?_, rfl, q _ _ (QV.same ab (.bl _) h)⟩
        have : a = ⟨#[c]⟩ := by
          obtain ⟨l⟩ := a
          have e' : l = #[c] := by rw [← Array.toList_inj]; exact e
          rw [e']
        rw [this]
      · exact .inr (.inl ⟨a, b, rfl, rfl, q _ _ (QV.same ab (.bl _) h)⟩)
    · split at h
      · rename_i xs e
        obtain ⟨p, vs, rfl, s, r⟩ := rd_sq ab e ry
        exact .inr (.inr ⟨p, vs, rfl, s, flt_of h.1 rx, flts_of h.2.1 r, q _ _ (QV.same ab (.bl _) (by rw [inF_of h.1 rx h.2.1 r]; exact h.2.2))⟩)
      · exact h.elim⟩
theorem opl_is : OpL T X (compareOp .Is) (isU false) :=
  ⟨_, op_isN.or op_isBl, fun H G x y xv yv Q Qv ab rx ry h q => by
    unfold isU at h
    split at h
    · cases rx; cases ry
      exact .inr ⟨_, _, rfl, rfl, q _ _ (QV.same ab (.bl _) h)⟩
    · cases rx; cases ry
      exact .inl ⟨rfl, q _ _ (QV.same ab (.bl _) h)⟩
    · cases rx; cases ry
      exact .inl ⟨rfl, q _ _ (QV.same ab (.bl _) h)⟩
    · cases rx; cases ry
      exact .inl ⟨rfl, q _ _ (QV.same ab (.bl _) h)⟩
    · cases rx; cases ry
      exact .inl ⟨rfl, q _ _ (QV.same ab (.bl _) h)⟩
    · cases rx; cases ry
      exact .inl ⟨rfl, q _ _ (QV.same ab (.bl _) h)⟩
    · cases rx; cases ry
      exact .inl ⟨rfl, q _ _ (QV.same ab (.bl _) h)⟩
    · exact h.elim⟩
theorem opl_isNot : OpL T X (compareOp .IsNot) (isU true) :=
  ⟨_, op_notN.or op_notBl, fun H G x y xv yv Q Qv ab rx ry h q => by
    unfold isU at h
    split at h
    · cases rx; cases ry
      exact .inr ⟨_, _, rfl, rfl, q _ _ (QV.same ab (.bl _) h)⟩
    · cases rx; cases ry
      exact .inl ⟨rfl, q _ _ (QV.same ab (.bl _) h)⟩
    · cases rx; cases ry
      exact .inl ⟨rfl, q _ _ (QV.same ab (.bl _) h)⟩
    · cases rx; cases ry
      exact .inl ⟨rfl, q _ _ (QV.same ab (.bl _) h)⟩
    · cases rx; cases ry
      exact .inl ⟨rfl, q _ _ (QV.same ab (.bl _) h)⟩
    · cases rx; cases ry
      exact .inl ⟨rfl, q _ _ (QV.same ab (.bl _) h)⟩
    · cases rx; cases ry
      exact .inl ⟨rfl, q _ _ (QV.same ab (.bl _) h)⟩
    · exact h.elim⟩
theorem opl_cmp (hu : X.A.units + 64 < cLine) : ∀ op : CmpOp, OpL T X (compareOp op) (cmpU op)
  | .Eq => opl_eq hu
  | .NotEq => opl_ne hu
  | .Lt => (opl_B0 op_lt).imp fun _ _ _ _ h => intU_rII h
  | .LtE => (opl_B0 op_le).imp fun _ _ _ _ h => intU_rII h
  | .Gt => (opl_B0 op_gt).imp fun _ _ _ _ h => intU_rII h
  | .GtE => (opl_B0 op_ge).imp fun _ _ _ _ h => intU_rII h
  | .In => opl_in
  | .NotIn => opl_notIn
  | .Is => opl_is
  | .IsNot => opl_isNot
end
end Y

namespace Y
open PySem PySem.Spec PyProof.Rows L2
/-! ### dicts above -/
def eqKy : U → U → Bool
  | .int i, .int j => decide (i = j)
  | .str a, .str b => decide (a = b)
  | .tup a, .tup b => decide (keysU a = keysU b)
  | _, _ => false
def getK (kvs : List (U × U)) (k : U) : Option U := (kvs.find? fun kv => eqKy kv.1 k).map (·.2)
def putKU (kvs : List (U × U)) (k v : U) : List (U × U) := if (kvs.any fun kv => eqKy kv.1 k) = true then kvs.map (fun kv => if eqKy kv.1 k = true then (kv.1, v) else kv) else kvs ++ [(k, v)]
def mergeU (kvs more : List (U × U)) : List (U × U) := more.foldl (fun acc kv => putKU acc kv.1 kv.2) kvs
def keyT : U → Option (List Key)
  | .tup us => keysU us
  | _ => none
/-- pairs of a list of pairs; of a row of keys and values -/
def pairsU : List U → Option (List (U × U))
  | [] => some []
  | .tup [k, v] :: r => match keyU k, pairsU r with
    | some _, some q => some ((k, v) :: q)
    | _, _ => none
  | _ :: _ => none
def altU : List U → Option (List (U × U))
  | [] => some []
  | k :: v :: r => match keyU k, altU r with
    | some _, some q => some ((k, v) :: q)
    | _, _ => none
  | _ => none
section
variable {T : Tb} {K : PySem.W.Frag} {H : Hp} {kvs : List (U × U)} {k x : U} {v : V}
theorem eqKy_key {u k : U} {a b : Key} (h1 : keyU u = some a) (h2 : keyU k = some b) : eqKy u k = decide (a = b) := by
  cases u <;> first
    | (cases h1; done)
    | (cases k <;> first
      | (cases h2; done)
      | (cases h1; cases h2; simp [eqKy]))
theorem DK.length : ∀ {kvs : List (U × U)} {q : List (Key × V)}, DK T K H kvs q → kvs.length = q.length
  | _, _, .nil => rfl
  | _, _, .cons _ _ d => by rw [List.length_cons, List.length_cons, d.length]
theorem getK_cons {u y : U} {r : List (U × U)} {k : U} : getK ((u, y) :: r) k = if eqKy u k = true then some y else getK r k := by
  unfold getK
  rw [List.find?_cons]
  cases eqKy u k <;> rfl
theorem DK.get : ∀ {kvs : List (U × U)} {q : List (Key × V)} {b : Key}, DK T K H kvs q → keyU k = some b → (∀ x, getK kvs k = some x → ∃ v, valV q b = some v ∧ RU T K H x v) ∧ (getK kvs k = none → valV q b = none)
  | _, _, _, .nil, _ => ⟨fun x h => (nomatch h), fun _ => rfl⟩
  | _, _, b, .cons (k := a) (q := q) hu r d, hk => by
    obtain ⟨h1, h2⟩ := DK.get d hk
    rw [getK_cons, eqKy_key hu hk]
    by_cases e : a = b
    · rw [valV_pos (by exact e)]
      simp only [e, decide_true, if_true]
      exact ⟨fun x h => by cases h; exact ⟨_, rfl, r⟩, fun h => by cases h⟩
    · rw [valV_neg (by exact e)]
      simp only [e, decide_false, if_false, Bool.false_eq_true]
      exact ⟨h1, h2⟩
theorem DK.any : ∀ {kvs : List (U × U)} {q : List (Key × V)} {b : Key}, DK T K H kvs q → keyU k = some b → (kvs.any fun kv => eqKy kv.1 k) = (q.any fun kv => decide (kv.1 = b))
  | _, _, _, .nil, _ => rfl
  | _, _, b, .cons hu r d, hk => by
    rw [List.any_cons, List.any_cons, DK.any d hk, eqKy_key hu hk]
theorem DK.append : ∀ {a b : List (U × U)} {p q : List (Key × V)}, DK T K H a p → DK T K H b q → DK T K H (a ++ b) (p ++ q)
  | _, _, _, _, .nil, h => h
  | _, _, _, _, .cons e r d, h => .cons e r (DK.append d h)
theorem DK.map (r : RU T K H x v) : ∀ {kvs : List (U × U)} {q : List (Key × V)} {b : Key}, DK T K H kvs q → keyU k = some b → DK T K H (kvs.map fun kv => if eqKy kv.1 k = true then (kv.1, x) else kv) (q.map fun kv => if kv.1 = b then (kv.1, v) else kv)
  | _, _, _, .nil, _ => .nil
  | _, _, b, .cons (k := a) hu r' d, hk => by
    rw [List.map_cons, List.map_cons]
    show DK T K H ((if eqKy _ k = true then _ else _) :: _) ((if a = b then _ else _) :: _)
    rw [eqKy_key hu hk]
    by_cases e : a = b
    · simp only [e, decide_true, if_true]
      exact .cons (by rw [← e]; exact hu) r (DK.map r d hk)
    · simp only [e, decide_false, if_false, Bool.false_eq_true]
      exact .cons hu r' (DK.map r d hk)
theorem DK.put {q : List (Key × V)} {b : Key} (d : DK T K H kvs q) (hk : keyU k = some b) (r : RU T K H x v) : DK T K H (putKU kvs k x) (putK q b v) := by
  unfold putKU putK
  rw [d.any hk]
  split
  · exact d.map r hk
  · exact d.append (.cons hk r .nil)
theorem DK.merge : ∀ {more : List (U × U)} {m : List (Key × V)} {kvs : List (U × U)} {q : List (Key × V)}, DK T K H more m → DK T K H kvs q → DK T K H (mergeU kvs more) (mergeK q m) := by
  intro more m kvs q d
  induction d generalizing kvs q with
  | nil => exact fun h => h
  | cons e r d ih => exact fun h => ih (h.put e r)
/-! #### keys that are tuples -/
theorem eqKy_tup {u k : U} {a b : List Key} (h1 : keyT u = some a) (h2 : keyT k = some b) : eqKy u k = decide (a = b) := by
  cases u <;> first
    | (cases h1; done)
    | (cases k <;> first
      | (cases h2; done)
      | (simp only [keyT] at h1 h2; simp only [eqKy, h1, h2, Option.some.injEq]))
theorem DT.length : ∀ {kvs : List (U × U)} {q : List (List Key × V)}, DT T K H kvs q → kvs.length = q.length
  | _, _, .nil => rfl
  | _, _, .cons _ _ d => by rw [List.length_cons, List.length_cons, d.length]
theorem DT.get : ∀ {kvs : List (U × U)} {q : List (List Key × V)} {b : List Key}, DT T K H kvs q → keyT k = some b → (∀ x, getK kvs k = some x → ∃ v, valV q b = some v ∧ RU T K H x v) ∧ (getK kvs k = none → valV q b = none)
  | _, _, _, .nil, _ => ⟨fun x h => (nomatch h), fun _ => rfl⟩
  | _, _, b, .cons (k := a) (q := q) hu r d, hk => by
    obtain ⟨h1, h2⟩ := DT.get d hk
    rw [getK_cons, eqKy_tup (by exact hu) hk]
    by_cases e : a = b
    · rw [valV_pos (by exact e)]
      simp only [e, decide_true, if_true]
      exact ⟨fun x h => by cases h; exact ⟨_, rfl, r⟩, fun h => by cases h⟩
    · rw [valV_neg (by exact e)]
      simp only [e, decide_false, if_false, Bool.false_eq_true]
      exact ⟨h1, h2⟩
theorem DT.any : ∀ {kvs : List (U × U)} {q : List (List Key × V)} {b : List Key}, DT T K H kvs q → keyT k = some b → (kvs.any fun kv => eqKy kv.1 k) = (q.any fun kv => decide (kv.1 = b))
  | _, _, _, .nil, _ => rfl
  | _, _, b, .cons hu r d, hk => by
    rw [List.any_cons, List.any_cons, DT.any d hk, eqKy_tup (by exact hu) hk]
theorem DT.append : ∀ {a b : List (U × U)} {p q : List (List Key × V)}, DT T K H a p → DT T K H b q → DT T K H (a ++ b) (p ++ q)
  | _, _, _, _, .nil, h => h
  | _, _, _, _, .cons e r d, h => .cons e r (DT.append d h)
theorem DT.map (r : RU T K H x v) : ∀ {kvs : List (U × U)} {q : List (List Key × V)} {b : List Key}, DT T K H kvs q → keyT k = some b → DT T K H (kvs.map fun kv => if eqKy kv.1 k = true then (kv.1, x) else kv) (q.map fun kv => if kv.1 = b then (kv.1, v) else kv)
  | _, _, _, .nil, _ => .nil
  | _, _, b, .cons (k := a) hu r' d, hk => by
    rw [List.map_cons, List.map_cons]
    show DT T K H ((if eqKy _ k = true then _ else _) :: _) ((if a = b then _ else _) :: _)
    rw [eqKy_tup (by exact hu) hk]
    by_cases e : a = b
    · simp only [e, decide_true, if_true]
      exact .cons (by rw [← e]; exact hu) r (DT.map r d hk)
    · simp only [e, decide_false, if_false, Bool.false_eq_true]
      exact .cons hu r' (DT.map r d hk)
theorem DT.put {q : List (List Key × V)} {b : List Key} (d : DT T K H kvs q) (hk : keyT k = some b) (r : RU T K H x v) : DT T K H (putKU kvs k x) (putK q b v) := by
  unfold putKU putK
  rw [d.any hk]
  split
  · exact d.map r hk
  · cases k <;> first
      | (cases hk; done)
      | exact d.append (.cons hk r .nil)
theorem keys_V : ∀ {us : List U} {ks : List Key} {vs : List V}, keysU us = some ks → RUs T K H us vs → vs = ks.map kV
  | [], _, _, e, r => by cases e; cases r; rfl
  | u :: us, _, _, e, r => by
    cases r with
    | cons a b =>
      unfold keysU at e
      split at e
      · rename_i k ks h1 h2
        cases e
        rw [keys_V h2 b]
        cases u <;> first
          | (cases h1; done)
          | (cases h1; cases a; rfl)
      · cases e
theorem key_V {u : U} {k : Key} {v : V} (e : keyU u = some k) (r : RU T K H u v) : v = kV k := by
  cases u <;> first
    | (cases e; done)
    | (cases e; cases r; rfl)
/-! ### fields -/
def putN (f : Nat) (v : U) : List (Nat × U) → List (Nat × U)
  | [] => [(f, v)]
  | (g, u) :: r => if g = f then (f, v) :: r else (g, u) :: putN f v r
theorem FR.length : ∀ {fs : List (Nat × U)} {q : List (Str × V)}, FR T K H fs q → fs.length = q.length
  | _, _, .nil => rfl
  | _, _, .cons _ d => by rw [List.length_cons, List.length_cons, d.length]
theorem FR.get {f : Nat} : ∀ {fs : List (Nat × U)} {q : List (Str × V)}, FR T K H fs q → (∀ x, fs.lookup f = some x → ∃ v, q.lookup (T.nm f) = some v ∧ RU T K H x v) ∧ (fs.lookup f = none → q.lookup (T.nm f) = none)
  | _, _, .nil => ⟨fun x h => (nomatch h), fun _ => rfl⟩
  | _, _, .cons (n := n) r d => by
    obtain ⟨h1, h2⟩ := FR.get (f := f) d
    by_cases e : f = n
    · subst e
      simp only [List.lookup, beq_self_eq_true]
      exact ⟨fun x h => by cases h; exact ⟨_, rfl, r⟩, fun h => by cases h⟩
    · have e1 : (f == n) = false := beq_eq_false_iff_ne.mpr e
      have e2 : (T.nm f == T.nm n) = false := beq_eq_false_iff_ne.mpr fun z => e (T.inj _ _ z)
      simp only [List.lookup, e1, e2]
      exact ⟨h1, h2⟩
theorem FR.put {f : Nat} (r : RU T K H x v) : ∀ {fs : List (Nat × U)} {q : List (Str × V)}, FR T K H fs q → FR T K H (putN f x fs) (putF (T.nm f) v q)
  | _, _, .nil => .cons r .nil
  | _, _, .cons (n := n) r' d => by
    unfold putN putF
    by_cases e : n = f
    · subst e
      simp only [if_true]
      exact .cons r d
    · have e2 : ¬ T.nm n = T.nm f := fun z => e (T.inj _ _ z)
      simp only [if_neg e, if_neg e2]
      exact .cons r' (FR.put r d)
end
end Y

namespace Y
open PySem PySem.Spec PyProof.Rows L2

/-! ### the program's own form -/
inductive Bi where
  | len | all | any | sum | abs | min | max | int | str | list | tuple | isi | sorted | dict
  deriving DecidableEq
inductive Bm where
  | append | extend | startswith | split | join | sindex
  deriving DecidableEq
inductive Tg where
  | name (i : Nat)
  | tup (ts : List Tg)
mutual
inductive Ex where
  | var (i : Nat)
  | lit (u : U)
  | bin (op : Operator) (a b : Ex)
  | neg (a : Ex)
  | cmp (op : CmpOp) (a b : Ex)
  | chn (op op' : CmpOp) (a b c : Ex)
  | conj (a b : Ex)
  | disj (a b : Ex)
  | inv (a : Ex)
  | ite (c a b : Ex)
  | ix (a i : Ex)
  | slc (a : Ex) (lo hi : Exo)
  | tup (es : Exs)
  | lst (es : Exs)
  | emp
  | call (f : Nat) (es : Exs)
  | blt (b : Bi) (es : Exs)
  | mth (o : Ex) (m : Nat) (tbl : List (Nat × Nat)) (es : Exs)
  | btm (o : Ex) (m : Bm) (es : Exs)
  | new (c f : Nat) (es : Exs)
  | att (o : Ex) (f : Nat) (cs : List Nat)
  | dsp (es : Exs)
  | lc (elt : Ex) (own : List Nat) (t : Tg) (it : It') (cond : Exo)
inductive Exs where
  | nil
  | cons (e : Ex) (r : Exs)
inductive Exo where
  | none
  | some (e : Ex)
inductive It' where
  | ex (e : Ex)
  | rng1 (e : Ex)
  | rng2 (a b : Ex)
  | enm (a : Ex)
  | zp (a b : Ex)
end
mutual
inductive Sm where
  | pass
  | expr (e : Ex)
  | set (t : Tg) (e : Ex)
  | par (i j : Nat) (a b : Ex)
  | setA (o : Ex) (f : Nat) (cs : List Nat) (e : Ex)
  | setI (o i e : Ex)
  | rse
  | aug (i : Nat) (op : Operator) (e : Ex)
  | ret (e : Ex)
  | retN
  | ifs (c : Ex) (a b : Sms)
  | fors (t : Tg) (it : It') (b : Sms)
  | whl (c : Ex) (b : Sms)
  | brk
  | cnt
inductive Sms where
  | nil
  | cons (s : Sm) (r : Sms)
end

/-! ### built-ins above -/
abbrev R1U := List U → Gp → UK → Prop
def strsU : List U → Option (List Str)
  | [] => some []
  | .str z :: r => match strsU r with
    | some zs => some (z :: zs)
    | none => none
  | _ :: _ => none
def intsU : List U → Option (List Int)
  | [] => some []
  | .int z :: r => match intsU r with
    | some zs => some (z :: zs)
    | none => none
  | _ :: _ => none
def blsU : List U → Option (List Bool)
  | [] => some []
  | .bl z :: r => match blsU r with
    | some zs => some (z :: zs)
    | none => none
  | _ :: _ => none
def lsU (G : Gp) : U → Option (List U)
  | .ref a => lsG (G a)
  | .rl xs => some xs
  | _ => none
/-- the name of a value's built-in type -/
def tyU (G : Gp) : U → Option BT
  | .non => some .non
  | .bl _ => some .bool
  | .int _ => some .int
  | .str _ => some .str
  | .tup _ => some .tup
  | .rl _ => some .lst
  | .ref a => match G a with
    | some (.lst _) => some .lst
    | some (.dic _) => some .dic
    | some (.dit _) => some .dic
    | _ => none
  | _ => none
def btsU : List U → Option (List BT)
  | [] => some []
  | .ty z :: r => match btsU r with
    | some zs => some (z :: zs)
    | none => none
  | _ :: _ => none
def dicG (G : Gp) : U → Option (List (U × U))
  | .ref a => match G a with
    | some (.dic kvs) => some kvs
    | _ => none
  | _ => none
def lenU (x : U) (G : Gp) (Q : UK) : Prop := match x with
  | .str z => z.length ≤ sizeLine ∧ Q (.int z.length) G
  | x => match rdL G x with
    | some xs => Q (.int xs.length) G
    | none => match dicG G x with
      | some kvs => Q (.int kvs.length) G
      | none => False
def biU : Bi → R1U
  | .len, us, G, Q => match us with
    | [x] => lenU x G Q
    | _ => False
  | .all, us, G, Q => match us with
    | [x] => (match lsU G x with
      | some xs => match blsU xs with
        | some bs => Q (.bl (bs.all id)) G
        | none => False
      | none => False)
    | _ => False
  | .any, us, G, Q => match us with
    | [x] => (match lsU G x with
      | some xs => match blsU xs with
        | some bs => Q (.bl (bs.any id)) G
        | none => False
      | none => False)
    | _ => False
  | .sum, us, G, Q => match us with
    | [x] => (match lsU G x with
      | some xs => match intsU xs with
        | some ns => Q (.int ns.sum) G
        | none => False
      | none => False)
    | _ => False
  | .abs, us, G, Q => match us with
    | [.int i] => Q (.int (if i < 0 then -i else i)) G
    | _ => False
  | .min, us, G, Q => match us with
    | [.int i, .int j] => Q (.int (if j < i then j else i)) G
    | [x] => (match lsU G x with
      | some xs => match intsU xs with
        | some ns => 0 < ns.length ∧ ∀ m, m ∈ ns → (∀ y, y ∈ ns → m ≤ y) → Q (.int m) G
        | none => False
      | none => False)
    | _ => False
  | .max, us, G, Q => match us with
    | [.int i, .int j] => Q (.int (if j > i then j else i)) G
    | [x] => (match lsU G x with
      | some xs => match intsU xs with
        | some ns => 0 < ns.length ∧ ∀ m, m ∈ ns → (∀ y, y ∈ ns → y ≤ m) → Q (.int m) G
        | none => False
      | none => False)
    | _ => False
  | .int, us, G, Q => match us with
    | [.str z] => ∃ n, PySem.intText? z = some n ∧ z.length ≤ 640 ∧ Q (.int n) G
    | _ => False
  | .str, us, G, Q => match us with
    | [.int i] => i.natAbs.log2 < 1920 ∧ Q (.str (toString i)) G
    | _ => False
  | .list, us, G, Q => match us with
    | [x] => (match rdL G x with
      | some xs => ∀ p, G p = none → Q (.ref p) (put G p (.lst xs))
      | none => match dicG G x with
        | some kvs => ∀ p, G p = none → Q (.ref p) (put G p (.lst (kvs.map (·.1))))
        | none => False)
    | _ => False
  | .sorted, us, G, Q => match us with
    | [x] => (match lsU G x with
      | some xs => match intsU xs with
        | some ns => ∀ (ns' : List Int) p, ns'.Perm ns → ns'.Pairwise (· ≤ ·) → G p = none → Q (.ref p) (put G p (.lst (ns'.map U.int)))
        | none => False
      | none => False)
    | _ => False
  | .dict, us, G, Q => match us with
    | [x] => (match lsU G x with
      | some xs => match pairsU xs with
        | some kvs => ∀ p, G p = none → Q (.ref p) (put G p (.dic (mergeU [] kvs)))
        | none => False
      | none => match dicG G x with
        | some kvs => ∀ p, G p = none → Q (.ref p) (put G p (.dic kvs))
        | none => False)
    | _ => False
  | .tuple, us, G, Q => match us with
    | [x] => (match rdL G x with
      | some xs => Q (.tup xs) G
      | none => False)
    | _ => False
  | .isi, us, G, Q => match us with
    | [x, .ty n] => (match tyU G x with
      | some m => Q (.bl (m.sub n)) G
      | none => False)
    | [x, .tup ts] => (match tyU G x, btsU ts with
      | some m, some ns => Q (.bl (ns.any fun n => m.sub n)) G
      | _, _ => False)
    | _ => False
/-- is the receiver of that type -/
def tmU (m : Bm) (x : U) (G : Gp) : Prop := match m, x with
  | .append, .ref a => (lsG (G a)).isSome = true
  | .extend, .ref a => (lsG (G a)).isSome = true
  | .startswith, .str _ => True
  | .split, .str _ => True
  | .join, .str _ => True
  | .sindex, .str _ => True
  | _, _ => False
def bmU : Bm → U → R1U
  | .append, x, us, G, Q => match x, us with
    | .ref a, [y] => (match G a with
      | some (.lst xs) => xs.length < sizeLine ∧ Q .non (put G a (.lst (xs ++ [y])))
      | _ => False)
    | _, _ => False
  | .extend, x, us, G, Q => match x, us with
    | .ref a, [.ref b] => (match G a, G b with
      | some (.lst xs), some (.lst ys) => xs.length + ys.length ≤ sizeLine ∧ Q .non (put G a (.lst (xs ++ ys)))
      | _, _ => False)
    | _, _ => False
  | .startswith, x, us, G, Q => match x, us with
    | .str a, [.str b] => Q (.bl (Txt.startswith a b)) G
    | _, _ => False
  | .split, x, us, G, Q => match x, us with
    | .str a, [.str b] => (b.length == 0) = false ∧ a.length + 2 ≤ sizeLine ∧ ∀ p, G p = none → Q (.ref p) (put G p (.lst ((Txt.split a b).map U.str)))
    | _, _ => False
  | .join, x, us, G, Q => match x, us with
    | .str a, [y] => (match rdL G y with
      | some ys => match strsU ys with
        | some zs => (zs.map (·.length)).sum + zs.length * a.length ≤ 16777216 ∧ Q (.str (Txt.join a zs)) G
        | none => False
      | none => False)
    | _, _ => False
  | .sindex, x, us, G, Q => match x, us with
    | .str a, [.str b] => (match Txt.index0 a b with
      | some k => Q (.int (k : Nat)) G
      | none => False)
    | _, _ => False

/-! ### what is wanted -/
structure Gm where
  fn : Nat → SpU
  ar : Nat → Nat
def isB (u : U) (P : Bool → Prop) : Prop := match u with
  | .bl b => P b
  | _ => False
mutual
def gU : Tg → TGU
  | .name i, x, σ, G, Q => Q (σ.set i (some x)) G
  | .tup ts, x, σ, G, Q => match x with
    | .tup xs => gsU ts xs σ G Q
    | _ => False
def gsU : List Tg → List U → SU → Gp → (SU → Gp → Prop) → Prop
  | [], [], σ, G, Q => Q σ G
  | t :: ts, x :: xs, σ, G, Q => gU t x σ G fun σ' G' => gsU ts xs σ' G' Q
  | _, _, _, _, _ => False
end
def wipeU (σ : SU) : List Nat → SU
  | [] => σ
  | v :: vs => (wipeU σ vs).set v none
def loopU (g : TGU) (b : TSU) (src : Gp → Prop) : List U → EU → SU → Gp → Prop
  | [], D, σ, G => src G ∧ D.nx σ G
  | x :: xs, D, σ, G => src G ∧ g x σ G fun σ' G' => b { nx := loopU g b src xs D, rt := D.rt, bk := D.nx, ct := loopU g b src xs D } σ' G'
def whU (c : TTU) (b : TSU) : Nat → EU → SU → Gp → Prop
  | 0, _, _, _ => False
  | n + 1, D, σ, G => c σ G fun k G1 => if k = true then b { nx := whU c b n D, rt := D.rt, bk := D.nx, ct := whU c b n D } σ G1 else D.nx σ G1
def lcU (g : TGU) (tt : TTU) (te : TEU) (src : Gp → Prop) (D : Addr) (σ : SU) (Q : Gp → Prop) : List U → List U → Gp → Prop
  | [], _, G => src G ∧ Q G
  | x :: xs, acc, G => src G ∧ g x σ G fun σ2 G2 => tt σ2 G2 fun b G3 => if b = true then te σ2 G3 fun y G4 => G4 D = some (.lst acc) ∧ acc.length < sizeLine ∧ lcU g tt te src D σ Q xs (acc ++ [y]) (put G4 D (.lst (acc ++ [y])))
    else lcU g tt te src D σ Q xs acc G3
abbrev TIU := SU → Gp → ((Gp → Prop) → List U → Gp → Prop) → Prop
def seqU (x : U) (G : Gp) (R : (Gp → Prop) → List U → Gp → Prop) : Prop := match x with
  | .tup xs => R (fun _ => True) xs G
  | .rl xs => R (fun _ => True) xs G
  | .str z => R (fun _ => True) (z.cps.toList.map fun c => .str ⟨#[c]⟩) G
  | .ref a => match lsG (G a) with
    | some xs => R (fun G' => lsG (G' a) = some xs) xs G
    | none => False
  | _ => False
def rngU (lo : Int) (n : Nat) : List U := (List.range n).map fun (k : Nat) => .int (lo + (k : Int))
def partU (lo : U) (P : Int → Prop) : Prop := match lo with
  | .int i => P i
  | _ => False
def cutU (xs : List U) (lo hi : Option Int) : List U := (xs.drop (HT.sIx xs.length 0 lo)).take (HT.sIx xs.length xs.length hi - HT.sIx xs.length 0 lo)
def slcU (x : U) (lo hi : Option Int) (G : Gp) (Q : UK) : Prop := match x with
  | .str z => z.length ≤ sizeLine ∧ Q (.str (cutS z lo hi)) G
  | .tup xs => Q (.tup (cutU xs lo hi)) G
  | .rl xs => ∀ p, G p = none → Q (.ref p) (put G p (.lst (cutU xs lo hi)))
  | .ref a => match lsG (G a) with
    | some xs => ∀ p, G p = none → Q (.ref p) (put G p (.lst (cutU xs lo hi)))
    | none => False
  | _ => False
def ixU (x y : U) (G : Gp) (Q : UK) : Prop := match x with
  | .str z => partU y fun i => z.length ≤ sizeLine ∧ ∃ c, atI z.cps.toList i = some c ∧ Q (.str ⟨#[c]⟩) G
  | x => (match rdL G x with
    | some xs => partU y fun i => (match atI xs i with
      | some v => Q v G
      | none => False)
    | none => (match dicG G x with
      | some kvs => (keyU y).isSome = true ∧ (match getK kvs y with
        | some v => Q v G
        | none => False)
      | none => False))
/-- x[y] = z -/
def setU (x y z : U) (G : Gp) (R : Gp → Prop) : Prop := match x with
  | .ref a => (match G a with
    | some (.lst xs) => partU y fun i => (match ixN xs.length i with
      | some j => R (put G a (.lst (xs.set j z)))
      | none => False)
    | some (.dic kvs) => (keyU y).isSome = true ∧ kvs.length < sizeLine ∧ R (put G a (.dic (putKU kvs y z)))
    | some (.dit kvs) => False
    | _ => False)
  | _ => False
def enU (i : Nat) : List U → List U
  | [] => []
  | x :: xs => .tup [.int (i : Int), x] :: enU (i + 1) xs
def zpU : List U → List U → List U
  | x :: xs, y :: ys => .tup [x, y] :: zpU xs ys
  | _, _ => []
def enmU (x : U) (G : Gp) (R : (Gp → Prop) → List U → Gp → Prop) : Prop := match lsU G x with
  | some xs => R (fun G' => lsU G' x = some xs) (enU 0 xs) G
  | none => False
def zpsU (x y : U) (G : Gp) (R : (Gp → Prop) → List U → Gp → Prop) : Prop := match x, y with
  | .tup xs, .tup ys => R (fun _ => True) (zpU xs ys) G
  | x, y => match lsU G x, lsU G y with
    | some xs, some ys => R (fun G' => lsU G' x = some xs ∧ lsU G' y = some ys) (zpU xs ys) G
    | _, _ => False
/-- an instance -/
def insU (x : U) (G : Gp) (P : Addr → Nat → List (Nat × U) → Prop) : Prop := match x with
  | .ref a => (match G a with
    | some (.ins c fs) => P a c fs
    | _ => False)
  | _ => False
def E0U : XS := fun _ _ _ _ => False
mutual
def wpE (Γ : Gm) : Ex → XS → TEU
  | .var i, _, σ, G, Q => match σ[i]? with
    | some (some u) => Q u G
    | _ => False
  | .lit u, _, _, G, Q => Q u G
  | .bin op a b, E, σ, G, Q => wpE Γ a E σ G fun x G1 => wpE Γ b E σ G1 fun y G2 => binU op x y G2 Q
  | .neg a, E, σ, G, Q => wpE Γ a E σ G fun x G1 => partU x fun i => Q (.int (-i)) G1
  | .cmp op a b, E, σ, G, Q => wpE Γ a E σ G fun x G1 => wpE Γ b E σ G1 fun y G2 => cmpU op x y G2 Q
  | .chn op op' a b c, E, σ, G, Q => wpE Γ a E σ G fun x G1 => wpE Γ b E σ G1 fun y G2 => cmpU op x y G2 fun u G3 => isB u fun k => if k = true then wpE Γ c E σ G3 fun z G4 => cmpU op' y z G4 Q else Q (.bl false) G3
  | .conj a b, E, σ, G, Q => wpE Γ a E σ G fun x G1 => isB x fun k => if k = true then wpE Γ b E σ G1 Q else Q (.bl false) G1
  | .disj a b, E, σ, G, Q => wpE Γ a E σ G fun x G1 => isB x fun k => if k = true then Q (.bl true) G1 else wpE Γ b E σ G1 Q
  | .inv a, E, σ, G, Q => wpE Γ a E σ G fun x G1 => isB x fun k => Q (.bl (!k)) G1
  | .ite c a b, E, σ, G, Q => wpE Γ c E σ G fun x G1 => isB x fun k => if k = true then wpE Γ a E σ G1 Q else wpE Γ b E σ G1 Q
  | .ix a i, E, σ, G, Q => wpE Γ a E σ G fun x G1 => wpE Γ i E σ G1 fun y G2 => ixU x y G2 Q
  | .slc a lo hi, E, σ, G, Q => wpE Γ a E σ G fun x G1 => wpO Γ lo E σ G1 fun l G2 => wpO Γ hi E σ G2 fun h G3 => slcU x l h G3 Q
  | .tup es, E, σ, G, Q => wpEs Γ es E σ G fun us G1 => us.length ≤ sizeLine ∧ Q (.tup us) G1
  | .lst es, E, σ, G, Q => wpEs Γ es E σ G fun us G1 => us.length ≤ sizeLine ∧ ∀ p, G1 p = none → Q (.ref p) (put G1 p (.lst us))
  | .emp, _, _, G, Q => (∀ p, G p = none → Q (.ref p) (put G p (.dic []))) ∨ ∀ p, G p = none → Q (.ref p) (put G p (.dit []))
  | .call f es, E, σ, G, Q => wpEs Γ es E σ G fun us G1 => us.length = Γ.ar f ∧ Γ.fn f us G1 Q fun c fs G' => E c fs σ G'
  | .blt b es, E, σ, G, Q => wpEs Γ es E σ G fun us G1 => biU b us G1 Q
  | .mth o m tbl es, E, σ, G, Q => wpE Γ o E σ G fun x G1 => insU x G1 fun a c fs => fs.lookup m = none ∧ (match tbl.lookup c with
    | some f => wpEs Γ es E σ G1 fun us G2 => us.length + 1 = Γ.ar f ∧ Γ.fn f (.ref a :: us) G2 Q fun c fs G' => E c fs σ G'
    | none => False)
  | .btm o m es, E, σ, G, Q => wpE Γ o E σ G fun x G1 => tmU m x G1 ∧ wpEs Γ es E σ G1 fun us G2 => bmU m x us G2 Q
  | .new c f es, E, σ, G, Q => wpEs Γ es E σ G fun us G1 => us.length + 1 = Γ.ar f ∧ ∀ p, G1 p = none → Γ.fn f (.ref p :: us) (put G1 p (.ins c [])) (fun v G2 => v = .non ∧ Q (.ref p) G2) fun c fs G' => E c fs σ G'
  | .att o f cs, E, σ, G, Q => wpE Γ o E σ G fun x G1 => insU x G1 fun _ c fs => cs.contains c = true ∧ (match fs.lookup f with
    | some v => Q v G1
    | none => False)
  | .dsp es, E, σ, G, Q => ∀ p, G p = none → wpEs Γ es E σ (put G p (.dic [])) fun us G1 => G1 p = some (.dic []) ∧ (match altU us with
    | some kvs => kvs.length ≤ 15 ∧ Q (.ref p) (put G1 p (.dic (mergeU [] kvs)))
    | none => False)
  | .lc elt own t it cond, E, σ, G, Q => wpI Γ it E σ G fun src items G1 => ∀ D, G1 D = none → lcU (gU t) (wpC Γ cond) (wpE Γ elt E0U) src D (wipeU σ own) (Q (.ref D)) items [] (put G1 D (.lst []))
def wpEs (Γ : Gm) : Exs → XS → TAU
  | .nil, _, _, G, Q => Q [] G
  | .cons e r, E, σ, G, Q => wpE Γ e E σ G fun x G1 => wpEs Γ r E σ G1 fun xs G2 => Q (x :: xs) G2
def wpO (Γ : Gm) : Exo → XS → SU → Gp → (Option Int → Gp → Prop) → Prop
  | .none, _, _, G, Q => Q none G
  | .some e, E, σ, G, Q => wpE Γ e E σ G fun x G1 => partU x fun i => Q (some i) G1
def wpC (Γ : Gm) : Exo → TTU
  | .none, _, G, Q => Q true G
  | .some e, σ, G, Q => wpE Γ e E0U σ G fun x G1 => isB x fun k => Q k G1
def wpI (Γ : Gm) : It' → XS → TIU
  | .ex e, E, σ, G, R => wpE Γ e E σ G fun x G1 => seqU x G1 R
  | .rng1 e, E, σ, G, R => wpE Γ e E σ G fun x G1 => partU x fun j => -(2 ^ 62) ≤ j ∧ j < 2 ^ 62 ∧ R (fun _ => True) (rngU 0 j.toNat) G1
  | .enm e, E, σ, G, R => wpE Γ e E σ G fun x G1 => enmU x G1 R
  | .zp a b, E, σ, G, R => wpE Γ a E σ G fun x G1 => wpE Γ b E σ G1 fun y G2 => zpsU x y G2 R
  | .rng2 a b, E, σ, G, R => wpE Γ a E σ G fun x G1 => wpE Γ b E σ G1 fun y G2 => partU x fun i => partU y fun j => -(2 ^ 62) ≤ i ∧ i < 2 ^ 62 ∧ -(2 ^ 62) ≤ j ∧ j < 2 ^ 62 ∧ R (fun _ => True) (rngU i (j - i).toNat) G2
end
def tstU (t : TEU) : TTU := fun σ G Q => t σ G fun x G1 => isB x fun k => Q k G1
mutual
def wpS (Γ : Gm) (E : XS) : Sm → TSU
  | .pass, D, σ, G => D.nx σ G
  | .expr e, D, σ, G => wpE Γ e E σ G fun _ G1 => D.nx σ G1
  | .set t e, D, σ, G => wpE Γ e E σ G fun x G1 => gU t x σ G1 D.nx
  | .par i j a b, D, σ, G => wpE Γ a E σ G fun x G1 => wpE Γ b E σ G1 fun y G2 => D.nx ((σ.set i (some x)).set j (some y)) G2
  | .setA o f cs e, D, σ, G => wpE Γ e E σ G fun y G1 => wpE Γ o E σ G1 fun x G2 => insU x G2 fun a c fs => cs.contains c = true ∧ fs.length < 1000 ∧ D.nx σ (put G2 a (.ins c (putN f y fs)))
  | .setI o i e, D, σ, G => wpE Γ e E σ G fun z G1 => wpE Γ o E σ G1 fun x G2 => wpE Γ i E σ G2 fun y G3 => setU x y z G3 fun G4 => D.nx σ G4
  | .rse, _, _, _ => False
  | .aug i op e, D, σ, G => match σ[i]? with
    | some (some (.int x)) => op = .Add ∧ wpE Γ e E σ G fun y G1 => partU y fun j => D.nx (σ.set i (some (.int (x + j)))) G1
    | _ => False
  | .ret e, D, σ, G => wpE Γ e E σ G D.rt
  | .retN, D, _, G => D.rt .non G
  | .ifs c a b, D, σ, G => wpE Γ c E σ G fun x G1 => isB x fun k => if k = true then wpSs Γ E a D σ G1 else wpSs Γ E b D σ G1
  | .fors t it b, D, σ, G => wpI Γ it E σ G fun src items G1 => loopU (gU t) (wpSs Γ E b) src items D σ G1
  | .whl c b, D, σ, G => ∃ n, whU (tstU (wpE Γ c E)) (wpSs Γ E b) n D σ G
  | .brk, D, σ, G => D.bk σ G
  | .cnt, D, σ, G => D.ct σ G
def wpSs (Γ : Gm) (E : XS) : Sms → TSU
  | .nil, D, σ, G => D.nx σ G
  | .cons s r, D, σ, G => wpS Γ E s { nx := fun σ' G' => ∃ G2, Sub G2 G' ∧ wpSs Γ E r D σ' G2, rt := D.rt, bk := D.bk, ct := D.ct } σ G
end
end Y

namespace Y
open PySem PySem.Spec PyProof.Rows L2

/-! ### expressions, one by one -/
section
variable {T : Tb} {X : Cx} {a b c e : Expr} {ta tb tc te : TEU} {pos : Pos}
abbrev QE (T : Tb) (X : Cx) (e : Expr) (t : TEU) : Prop := PE X e (lE T X.K t)
abbrev QA (T : Tb) (X : Cx) (e : List Expr) (t : TAU) : Prop := PA X e (lA T X.K t)
abbrev QT (T : Tb) (X : Cx) (e : Expr) (t : TTU) : Prop := PT X e (lT T X.K t)
abbrev QS (T : Tb) (X : Cx) (s : Stmt) (t : TSU) : Prop := PS X s (lS T X.K t)
abbrev QSs (T : Tb) (X : Cx) (s : List Stmt) (t : TSU) : Prop := PSs X s (lS T X.K t)
theorem isB_of {K : PySem.W.Frag} {H : Hp} {x : U} {v : V} {P : Bool → Prop} (h : isB x P) (r : RU T K H x v) : ∃ k, v = .bl k ∧ x = .bl k ∧ P k := by
  unfold isB at h
  split at h
  · cases r; exact ⟨_, rfl, rfl, h⟩
  · exact h.elim
def varU (i : Nat) : TEU := fun σ G Q => match σ[i]? with
  | some (some u) => Q u G
  | _ => False
theorem q_var {i : Nat} {x : Str} (hN : X.N[i]? = some x) (hv : Vis X.env.scope x) (hd : (x == ("__debug__" : Str)) = false) (hcd : (x == ("__classdict__" : Str)) = false) : QE T X (.Name x pos) (varU i) :=
  PEi (pe_var hN hv hd hcd) fun σv H Qv h => by
    obtain ⟨σ, G, Q, rs, ab, h, q⟩ := h
    unfold varU at h
    split at h
    · rename_i u e
      obtain ⟨v, e', r⟩ := rs.2 i u e
      exact ⟨v, e', q v H (QV.same ab r h)⟩
    · exact h.elim
theorem q_con {u : U} {v : V} (h : PE X e (tC v)) (r : ∀ H, RU T X.K H u v) : QE T X e (fun _ G Q => Q u G) :=
  PEi h fun σv H Qv h => by
    obtain ⟨σ, G, Q, rs, ab, h, q⟩ := h
    exact q v H (QV.same ab (r H) h)
theorem q_op {op : Operator} {r : R2U} (ho : OpL T X (binaryOp op) r) (ha : QE T X a ta) (hb : QE T X b tb) : QE T X (.BinOp a op b pos) (fun σ G Q => ta σ G fun x G1 => tb σ G1 fun y G2 => r x y G2 Q) := by
  obtain ⟨r0, h0, i0⟩ := ho
  refine PEi (pe_op h0 ha hb) fun σv H Qv h => ?_
  obtain ⟨σ, G, Q, rs, ab, h, q⟩ := h
  refine ⟨σ, G, _, rs, ab, h, fun xv H1 ⟨x, G1, t1, ab1, rx, h1⟩ => ⟨σ, G1, _, rs.mono t1, ab1, h1, fun yv H2 ⟨y, G2, t2, ab2, ry, h2⟩ => ?_⟩⟩
  exact i0 H2 G2 x y xv yv Q Qv ab2 (RU.mono t2 _ _ rx) ry h2 fun v H' z => q v H' (z.from (t1.trans t2))
/-- the comparison's reading below -/
theorem cmp_below {op : CmpOp} {r : R2U} {r0 : R2} (i0 : ImpR T X.K r0 r) (σv : L2.St) (H : Hp) (Qv : VK) (h : lE T X.K (fun σ G Q => ta σ G fun x G1 => tb σ G1 fun y G2 => r x y G2 Q) σv H Qv) : tOp r0 (lE T X.K ta) (lE T X.K tb) σv H Qv := by
  obtain ⟨σ, G, Q, rs, ab, h, q⟩ := h
  refine ⟨σ, G, _, rs, ab, h, fun xv H1 ⟨x, G1, t1, ab1, rx, h1⟩ => ⟨σ, G1, _, rs.mono t1, ab1, h1, fun yv H2 ⟨y, G2, t2, ab2, ry, h2⟩ => ?_⟩⟩
  exact i0 H2 G2 x y xv yv Q Qv ab2 (RU.mono t2 _ _ rx) ry h2 fun v H' z => q v H' (z.from (t1.trans t2))
theorem q_cmp {op : CmpOp} {r : R2U} (ho : OpL T X (compareOp op) r) (ha : QE T X a ta) (hb : QE T X b tb) (hm : behindInMarks op b = false) : QE T X (.Compare a [op] [b] pos) (fun σ G Q => ta σ G fun x G1 => tb σ G1 fun y G2 => r x y G2 Q) := by
  obtain ⟨r0, h0, i0⟩ := ho
  exact PEi (pe_cmpR h0 ha hb hm) (cmp_below (op := op) i0)
/-- a value's test from its reading -/
theorem lT_tst {t : TEU} {σv : L2.St} {H : Hp} {Qv : Bool → Hp → Prop} (h : lT T X.K (tstU t) σv H Qv) : lE T X.K t σv H (fun x H' => ∃ k, x = .bl k ∧ Qv k H') := by
  obtain ⟨σ, G, Q, rs, ab, h, q⟩ := h
  refine ⟨σ, G, _, rs, ab, h, fun v H' ⟨x, G', t', ab', r, z⟩ => ?_⟩
  obtain ⟨k, e, _, z⟩ := isB_of z r
  exact ⟨k, e, q _ _ ⟨G', t', ab', z⟩⟩
theorem qt_val {t : TEU} (h : QE T X e t) (he : ∀ whole, isTrue e X.env whole = (do let v ← whole; standAt e.pos; holding [v] (truthy v))) : QT T X e (tstU t) :=
  PTi (pt_val h he) fun σv H Qv h => lT_tst h
theorem qt_cmp {op : CmpOp} {r : R2U} (ho : OpL T X (compareOp op) r) (ha : QE T X a ta) (hb : QE T X b tb) (hm : behindInMarks op b = false) : QT T X (.Compare a [op] [b] pos) (tstU fun σ G Q => ta σ G fun x G1 => tb σ G1 fun y G2 => r x y G2 Q) := by
  obtain ⟨r0, h0, i0⟩ := ho
  exact PTi (pt_cmpR h0 ha hb hm) fun σv H Qv h => cmp_below (op := op) i0 _ _ _ (lT_tst h)
def chnU (r r' : R2U) (ta tb tc : TEU) : TEU := fun σ G Q => ta σ G fun x G1 => tb σ G1 fun y G2 => r x y G2 fun u G3 => isB u fun k => if k = true then tc σ G3 fun z G4 => r' y z G4 Q else Q (.bl false) G3
theorem chn_below {r r' : R2U} {r0 r1 : R2} (i0 : ImpR T X.K r0 r) (i1 : ImpR T X.K r1 r') (σv : L2.St) (H : Hp) (Qv : VK) (h : lE T X.K (chnU r r' ta tb tc) σv H Qv) : tChain r0 r1 (lE T X.K ta) (lE T X.K tb) (lE T X.K tc) σv H Qv := by
  obtain ⟨σ, G, Q, rs, ab, h, q⟩ := h
  refine ⟨σ, G, _, rs, ab, h, fun xv H1 ⟨x, G1, t1, ab1, rx, h1⟩ => ⟨σ, G1, _, rs.mono t1, ab1, h1, fun yv H2 ⟨y, G2, t2, ab2, ry, h2⟩ => ?_⟩⟩
  refine i0 H2 G2 x y xv yv _ _ ab2 (RU.mono t2 _ _ rx) ry h2 fun v H3 ⟨u, G3, t3, ab3, ru, h3⟩ => ?_
  obtain ⟨k, ek, _, h3⟩ := isB_of h3 ru
  refine ⟨k, ek, ?_⟩
  cases k with
  | false => exact q _ _ ⟨.bl false, G3, (t1.trans t2).trans t3, ab3, .bl _, h3⟩
  | true =>
    refine ⟨σ, G3, _, rs.mono ((t1.trans t2).trans t3), ab3, h3, fun zv H4 ⟨z, G4, t4, ab4, rz, h4⟩ => ?_⟩
    exact i1 H4 G4 y z yv zv Q Qv ab4 (RU.mono (t3.trans t4) _ _ ry) rz h4 fun v H' w => q v H' (w.from (((t1.trans t2).trans t3).trans t4))
theorem q_chn {op op' : CmpOp} {r r' : R2U} (ho : OpL T X (compareOp op) r) (ho' : OpL T X (compareOp op') r') (ha : QE T X a ta) (hb : QE T X b tb) (hc : QE T X c tc) (hm : lastMarks [op, op'] [b, c] = false) : QE T X (.Compare a [op, op'] [b, c] pos) (chnU r r' ta tb tc) := by
  obtain ⟨r0, h0, i0⟩ := ho
  obtain ⟨r1, h1, i1⟩ := ho'
  exact PEi (pe_chain h0 h1 ha hb hc hm) (chn_below i0 i1)
theorem qt_chn {op op' : CmpOp} {r r' : R2U} (ho : OpL T X (compareOp op) r) (ho' : OpL T X (compareOp op') r') (ha : QE T X a ta) (hb : QE T X b tb) (hc : QE T X c tc) (hm : lastMarks [op, op'] [b, c] = false) : QT T X (.Compare a [op, op'] [b, c] pos) (tstU (chnU r r' ta tb tc)) := by
  obtain ⟨r0, h0, i0⟩ := ho
  obtain ⟨r1, h1, i1⟩ := ho'
  exact PTi (pt_chain h0 h1 ha hb hc hm) fun σv H Qv h => chn_below i0 i1 _ _ _ (lT_tst h)
def conjU (ta tb : TEU) : TEU := fun σ G Q => ta σ G fun x G1 => isB x fun k => if k = true then tb σ G1 Q else Q (.bl false) G1
def disjU (ta tb : TEU) : TEU := fun σ G Q => ta σ G fun x G1 => isB x fun k => if k = true then Q (.bl true) G1 else tb σ G1 Q
def invU (ta : TEU) : TEU := fun σ G Q => ta σ G fun x G1 => isB x fun k => Q (.bl (!k)) G1
def iteU (tc ta tb : TEU) : TEU := fun σ G Q => tc σ G fun x G1 => isB x fun k => if k = true then ta σ G1 Q else tb σ G1 Q
theorem q_and {rest : List Expr} (ha : QE T X a ta) (hb : QE T X (.BoolOp .And (b :: rest) pos) tb) : QE T X (.BoolOp .And (a :: b :: rest) pos) (conjU ta tb) :=
  PEi (pe_and ha hb) fun σv H Qv h => by
    obtain ⟨σ, G, Q, rs, ab, h, q⟩ := h
    refine ⟨σ, G, _, rs, ab, h, fun xv H1 ⟨x, G1, t1, ab1, rx, h1⟩ => ?_⟩
    obtain ⟨k, e, ex, h1⟩ := isB_of h1 rx
    refine ⟨k, e, ?_⟩
    cases k with
    | true => exact ⟨σ, G1, Q, rs.mono t1, ab1, h1, fun v H' z => q v H' (z.from t1)⟩
    | false => exact q _ _ ⟨.bl false, G1, t1, ab1, .bl _, h1⟩
theorem q_or {rest : List Expr} (ha : QE T X a ta) (hb : QE T X (.BoolOp .Or (b :: rest) pos) tb) : QE T X (.BoolOp .Or (a :: b :: rest) pos) (disjU ta tb) :=
  PEi (pe_or ha hb) fun σv H Qv h => by
    obtain ⟨σ, G, Q, rs, ab, h, q⟩ := h
    refine ⟨σ, G, _, rs, ab, h, fun xv H1 ⟨x, G1, t1, ab1, rx, h1⟩ => ?_⟩
    obtain ⟨k, e, ex, h1⟩ := isB_of h1 rx
    refine ⟨k, e, ?_⟩
    cases k with
    | false => exact ⟨σ, G1, Q, rs.mono t1, ab1, h1, fun v H' z => q v H' (z.from t1)⟩
    | true => exact q _ _ ⟨.bl true, G1, t1, ab1, .bl _, h1⟩
theorem q_one {op : BoolOp} (ha : QE T X a ta) : QE T X (.BoolOp op [a] pos) ta := pe_one ha
theorem q_not (ha : QE T X a ta) : QE T X (.UnaryOp .Not a pos) (invU ta) :=
  PEi (pe_not ha) fun σv H Qv h => by
    obtain ⟨σ, G, Q, rs, ab, h, q⟩ := h
    refine ⟨σ, G, _, rs, ab, h, fun xv H1 ⟨x, G1, t1, ab1, rx, h1⟩ => ?_⟩
    obtain ⟨k, e, ex, h1⟩ := isB_of h1 rx
    exact ⟨k, e, q _ _ ⟨.bl (!k), G1, t1, ab1, .bl _, h1⟩⟩
theorem qt_not (ha : QT T X a (tstU ta)) : QT T X (.UnaryOp .Not a pos) (tstU (invU ta)) :=
  PTi (pt_not ha) fun σv H Qv h => by
    obtain ⟨σ, G, Q, rs, ab, h, q⟩ := h
    refine ⟨σ, G, fun k G1 => Q (!k) G1, rs, ab, h, fun k H1 ⟨G1, t1, ab1, h1⟩ => ?_⟩
    exact q _ _ ⟨G1, t1, ab1, h1⟩
abbrev QW (T : Tb) (X : Cx) (e : Expr) (t : TTU) : Prop := PW X e (lT T X.K t)
theorem qw_and1 (ha : QT T X a (tstU ta)) : QW T X (.BoolOp .And [a] pos) (tstU ta) := pw_and1 ha
theorem qw_or1 (ha : QT T X a (tstU ta)) : QW T X (.BoolOp .Or [a] pos) (tstU ta) := pw_or1 ha
theorem isB_bl {k : Bool} {P : Bool → Prop} : isB (.bl k) P = P k := rfl
theorem qw_and {rest : List Expr} (ha : QT T X a (tstU ta)) (hb : QW T X (.BoolOp .And (b :: rest) pos) (tstU tb)) : QW T X (.BoolOp .And (a :: b :: rest) pos) (tstU (conjU ta tb)) :=
  PWi (pw_and ha hb) fun σv H Qv h => by
    obtain ⟨σ, G, Q, rs, ab, h, q⟩ := h
    refine ⟨σ, G, fun k G1 => if k = true then tstU tb σ G1 Q else Q false G1, rs, ab, ?_, fun k H1 ⟨G1, t1, ab1, h1⟩ => ?_⟩
    · exact h
    · cases k with
      | true => exact ⟨σ, G1, Q, rs.mono t1, ab1, h1, fun v H' z => q v H' (z.from t1)⟩
      | false => exact q _ _ ⟨G1, t1, ab1, h1⟩
theorem qw_or {rest : List Expr} (ha : QT T X a (tstU ta)) (hb : QW T X (.BoolOp .Or (b :: rest) pos) (tstU tb)) : QW T X (.BoolOp .Or (a :: b :: rest) pos) (tstU (disjU ta tb)) :=
  PWi (pw_or ha hb) fun σv H Qv h => by
    obtain ⟨σ, G, Q, rs, ab, h, q⟩ := h
    refine ⟨σ, G, fun k G1 => if k = true then Q true G1 else tstU tb σ G1 Q, rs, ab, ?_, fun k H1 ⟨G1, t1, ab1, h1⟩ => ?_⟩
    · exact h
    · cases k with
      | false => exact ⟨σ, G1, Q, rs.mono t1, ab1, h1, fun v H' z => q v H' (z.from t1)⟩
      | true => exact q _ _ ⟨G1, t1, ab1, h1⟩
theorem q_ite (hc : QT T X c (tstU tc)) (ha : QE T X a ta) (hb : QE T X b tb) : QE T X (.IfExp c a b pos) (iteU tc ta tb) :=
  PEi (pe_ifExp hc ha hb) fun σv H Qv h => by
    obtain ⟨σ, G, Q, rs, ab, h, q⟩ := h
    refine ⟨σ, G, fun k G1 => if k = true then ta σ G1 Q else tb σ G1 Q, rs, ab, h, fun k H1 ⟨G1, t1, ab1, h1⟩ => ?_⟩
    cases k with
    | true => exact ⟨σ, G1, Q, rs.mono t1, ab1, h1, fun v H' z => q v H' (z.from t1)⟩
    | false => exact ⟨σ, G1, Q, rs.mono t1, ab1, h1, fun v H' z => q v H' (z.from t1)⟩
theorem partU_of {K : PySem.W.Frag} {H : Hp} {x : U} {v : V} {P : Int → Prop} (h : partU x P) (r : RU T K H x v) : ∃ i, v = .int i ∧ x = .int i ∧ P i := by
  unfold partU at h
  split at h
  · cases r; exact ⟨_, rfl, rfl, h⟩
  · exact h.elim
theorem q_neg (ha : QE T X a ta) : QE T X (.UnaryOp .USub a pos) (fun σ G Q => ta σ G fun x G1 => partU x fun i => Q (.int (-i)) G1) :=
  PEi (pe_un un_neg ha) fun σv H Qv h => by
    obtain ⟨σ, G, Q, rs, ab, h, q⟩ := h
    refine ⟨σ, G, _, rs, ab, h, fun xv H1 ⟨x, G1, t1, ab1, rx, h1⟩ => ?_⟩
    obtain ⟨i, e, _, h1⟩ := partU_of h1 rx
    exact ⟨i, e, q _ _ ⟨.int (-i), G1, t1, ab1, .int _, h1⟩⟩
/-! ### items and slices -/
theorem cut_RUs {K : PySem.W.Frag} {H : Hp} {us : List U} {vs : List V} (r : RUs T K H us vs) (lo hi : Option Int) : RUs T K H (cutU us lo hi) (cutV vs lo hi) := by
  unfold cutU cutV
  rw [r.length]
  exact (r.drop _).take _
theorem at_RUs {K : PySem.W.Frag} {H : Hp} {us : List U} {vs : List V} {i : Int} {u : U} (r : RUs T K H us vs) (h : atI us i = some u) : ∃ v, atI vs i = some v ∧ RU T K H u v := by
  unfold atI at h ⊢
  rw [← r.length]
  cases e : ixN us.length i with
  | none => rw [e] at h; cases h
  | some j => rw [e] at h; exact r.get h
theorem ix_dg (hu : X.A.units + 1 < cLine) : IxR X (fun x y H Q => ∃ a v, x = .ref a ∧ DGet H a y (some v) ∧ Q v H) := by
  intro value slice pins s σ H x y v u Q I rx ry h hs
  obtain ⟨a, z, rfl, g, q⟩ := h
  cases rx
  have hT := dict_typeIs I g
  unfold subscriptTail
  refine wpAny_bind ?_
  rw [getitemInPython_of_ne hT.not_modules]
  refine wpAny_bind (wpAny_specialOf hT PySem.F.slot_dict_getitem.lookup ?_)
  have fin : wpAny (model X.prog X.w) X.A (subscripted slice false (.ref a) u) (fun r s₃ => wpAny (model X.prog X.w) X.A (letTemporaryGo value (.ref a) r >>= fun _ => pure r) (EP X pins σ Q) X.xe s₃) X.xe s := by
    rw [hs]
    exact wpAny_operating (d_getItem hu I g ry fun w' s3 I3 rw' => wpAny_bind (wpAny_letTemporaryGo (wpAny_pure ⟨z, H, I3, rw', q⟩)))
  first
    | exact wpAny_pure (wpAny_bind fin)
    | exact wpAny_bind (wpAny_pure (wpAny_bind fin))
    | exact wpAny_bind fin
theorem dic_of {K : PySem.W.Frag} {H : Hp} {G : Gp} {x : U} {kvs : List (U × U)} {xv : V} (ab : Abs T K H G) (e : dicG G x = some kvs) (r : RU T K H x xv) : ∃ a q, x = .ref a ∧ xv = .ref a ∧ H a = some (.dK q) ∧ DK T K H kvs q := by
  cases x <;> first
    | (cases e; done)
    | skip
  rename_i a
  cases r
  unfold dicG at e
  cases h : G a with
  | none => simp only [h] at e; cases e
  | some o =>
    simp only [h] at e
    cases o <;> first
      | (cases e; done)
      | skip
    cases e
    obtain ⟨q, h1, h2⟩ := ab a _ h
    exact ⟨a, q, rfl, rfl, h1, h2⟩
def rIxA (K : PySem.W.Frag) : R2 := fun x y H Q => rIx K x y H Q ∨ ∃ a v, x = .ref a ∧ DGet H a y (some v) ∧ Q v H
theorem ix_imp : ImpR T X.K (rIxA X.K) ixU := fun H G x y xv yv Q Qv ab rx ry h q => by
  unfold ixU at h
  split at h
  · obtain ⟨i, rfl, rfl, hz, c, e, h⟩ := partU_of h ry
    cases rx
    exact .inl (.inr (.inr ⟨_, _, c, rfl, rfl, hz, e, q _ _ (QV.same ab (.str _) h)⟩))
  · split at h
    · rename_i xs e
      obtain ⟨i, rfl, ey, h2⟩ := partU_of h ry
      subst ey
      clear h
      have h := h2
      clear h2
      obtain ⟨p, vs, rfl, s, r⟩ := rd_sq ab e rx
      split at h
      · rename_i v ea
        obtain ⟨w, ew, rw'⟩ := at_RUs r ea
        rcases s with s | s
        · exact .inl (.inl ⟨p, vs, _, w, rfl, rfl, s, ew, q _ _ (QV.same ab rw' h)⟩)
        · exact .inl (.inr (.inl ⟨p, vs, _, w, rfl, rfl, s, ew, q _ _ (QV.same ab rw' h)⟩))
      · exact h.elim
    · split at h
      · rename_i kvs e
        obtain ⟨a, m, rfl, rfl, hm, d⟩ := dic_of ab e rx
        obtain ⟨k, hk⟩ := Option.isSome_iff_exists.mp h.1
        obtain ⟨_, h⟩ := h
        split at h
        · rename_i v ev
          obtain ⟨w, hw, rw'⟩ := (d.get hk).1 _ ev
          have e2 := key_V hk ry
          subst e2
          exact .inr ⟨a, w, rfl, by rw [← hw]; exact DGet.k hm, q _ _ (QV.same ab rw' h)⟩
        · exact h.elim
      · exact h.elim
theorem q_ix (hu : X.A.units + 1 < cLine) (ha : QE T X a ta) (hb : QE T X b tb) (hs : PlainIx b) : QE T X (.Subscript a b pos) (fun σ G Q => ta σ G fun x G1 => tb σ G1 fun y G2 => ixU x y G2 Q) :=
  PEi (pe_ix (ix_seq.or (ix_dg hu)) ha hb hs) (cmp_below (op := .Eq) ix_imp)
abbrev TOU := SU → Gp → (Option Int → Gp → Prop) → Prop
def lO (T : Tb) (K : PySem.W.Frag) (t : TOU) : TO := fun σv H Qv => ∃ σ G Q, RS T K H σ σv ∧ Abs T K H G ∧ t σ G Q ∧ ∀ v H', (∃ G', TL K H H' ∧ Abs T K H' G' ∧ Q v G') → Qv v H'
theorem POi {X : Cx} {e : Option Expr} {t t' : TO} (h : PO X e t') (i : ∀ σ H Q, t σ H Q → t' σ H Q) : PO X e t := ⟨fun pins s σ H Q I q => h.run pins s σ H Q I (i σ H Q q)⟩
theorem qo_none : PO X none (lO T X.K fun _ G Q => Q none G) := POi po_none fun σv H Qv h => by
  obtain ⟨σ, G, Q, rs, ab, h, q⟩ := h
  exact q _ _ ⟨G, TL.refl H, ab, h⟩
theorem qo_some (ha : QE T X a ta) : PO X (some a) (lO T X.K fun σ G Q => ta σ G fun x G1 => partU x fun i => Q (some i) G1) := POi (po_some ha) fun σv H Qv h => by
  obtain ⟨σ, G, Q, rs, ab, h, q⟩ := h
  refine ⟨σ, G, _, rs, ab, h, fun xv H1 ⟨x, G1, t1, ab1, rx, h1⟩ => ?_⟩
  obtain ⟨i, e, _, h1⟩ := partU_of h1 rx
  exact ⟨i, e, q _ _ ⟨G1, t1, ab1, h1⟩⟩
theorem slc_imp {lo hi : Option Int} {H : Hp} {G : Gp} {x : U} {xv : V} {Q : UK} {Qv : VK} (ab : Abs T X.K H G) (rx : RU T X.K H x xv) (h : slcU x lo hi G Q) (q : ∀ v H', QV T X.K H Q v H' → Qv v H') :
    rSlL X.K xv lo hi H Qv ∨ rSlA X.K xv lo hi H Qv ∨ rSlS xv lo hi H Qv := by
  unfold slcU at h
  split at h
  · cases rx
    exact .inr (.inr ⟨_, rfl, h.1, q _ _ (QV.same ab (.str _) h.2)⟩)
  · rename_i us
    cases rx with
    | @tup p vs _ s r =>
      refine .inr (.inl ⟨p, vs, rfl, s.sq, fun hw => ?_, fun hw p' n => q _ _ (QV.tup ab n (cut_RUs r lo hi) h)⟩)
      refine q _ _ (QV.same ab (x := .tup us) (.tup s r) ?_)
      have e : cutU us lo hi = us := by
        unfold cutU
        rw [r.length, hw.1, hw.2, ← r.length, List.drop_zero, Nat.sub_zero, List.take_length]
      rw [e] at h
      exact h
  · cases rx with
    | rl s r => exact .inl ⟨_, _, rfl, s.sq, fun p n => q _ _ (QV.lst ab n (cut_RUs r lo hi) h)⟩
  · cases rx
    split at h
    · rename_i xs e
      obtain ⟨vs, hr, r⟩ := ab.list e
      exact .inl ⟨_, vs, rfl, .inl hr, fun p n => q _ _ (QV.lst ab n (cut_RUs r lo hi) h)⟩
    · exact h.elim
  · exact h.elim
theorem q_slc {lo hi : Option Expr} {tl th : TOU} {p2 : Pos} (ha : QE T X a ta) (hl : PO X lo (lO T X.K tl)) (hh : PO X hi (lO T X.K th)) : QE T X (.Subscript a (.Slice lo hi none p2) pos) (fun σ G Q => ta σ G fun x G1 => tl σ G1 fun l G2 => th σ G2 fun h G3 => slcU x l h G3 Q) :=
  PEi (pe_slice (sl_list.or (sl_tupA.or sl_str)) ha hl hh) fun σv H Qv h => by
    obtain ⟨σ, G, Q, rs, ab, h, q⟩ := h
    refine ⟨σ, G, _, rs, ab, h, fun xv H1 ⟨x, G1, t1, ab1, rx, h1⟩ => ⟨σ, G1, _, rs.mono t1, ab1, h1, fun l H2 ⟨G2, t2, ab2, h2⟩ => ⟨σ, G2, _, rs.mono (t1.trans t2), ab2, h2, fun u H3 ⟨G3, t3, ab3, h3⟩ => ?_⟩⟩⟩
    exact slc_imp ab3 (RU.mono (t2.trans t3) _ _ rx) h3 fun v H' z => q v H' (z.from ((t1.trans t2).trans t3))
/-! ### argument lists, displays -/
theorem qa_nil : QA T X [] (fun _ G Q => Q [] G) := PAi pa_nil fun σv H Qv h => by
  obtain ⟨σ, G, Q, rs, ab, h, q⟩ := h
  exact q _ _ ⟨[], G, TL.refl H, ab, .nil, h⟩
theorem qa_cons {es : List Expr} {ts : TAU} (ha : QE T X a ta) (hr : QA T X es ts) (hs : starEach (a :: es) X.env = (false, eval a X.env) :: starEach es X.env) : QA T X (a :: es) (fun σ G Q => ta σ G fun x G1 => ts σ G1 fun xs G2 => Q (x :: xs) G2) :=
  PAi (pa_cons ha hr hs) fun σv H Qv h => by
    obtain ⟨σ, G, Q, rs, ab, h, q⟩ := h
    refine ⟨σ, G, _, rs, ab, h, fun xv H1 ⟨x, G1, t1, ab1, rx, h1⟩ => ⟨σ, G1, _, rs.mono t1, ab1, h1, fun vs H2 ⟨xs, G2, t2, ab2, r2, h2⟩ => ?_⟩⟩
    exact q _ _ ⟨x :: xs, G2, t1.trans t2, ab2, .cons (RU.mono t2 _ _ rx) r2, h2⟩
theorem q_tup {es : List Expr} {ts : TAU} {k : Nat} (h : QA T X es ts) : QE T X (.Tuple es k pos) (fun σ G Q => ts σ G fun us G1 => us.length ≤ sizeLine ∧ Q (.tup us) G1) :=
  PEi (pe_tup h) fun σv H Qv h => by
    obtain ⟨σ, G, Q, rs, ab, h, q⟩ := h
    refine ⟨σ, G, _, rs, ab, h, fun vs H1 ⟨us, G1, t1, ab1, r1, h1⟩ => ⟨by rw [← r1.length]; exact h1.1, fun p n => ?_⟩⟩
    exact q _ _ ((QV.tup ab1 n r1 h1.2).from t1)
theorem q_lst {es : List Expr} {ts : TAU} (h : QA T X es ts) : QE T X (.List es pos) (fun σ G Q => ts σ G fun us G1 => us.length ≤ sizeLine ∧ ∀ p, G1 p = none → Q (.ref p) (put G1 p (.lst us))) :=
  PEi (pe_lst h) fun σv H Qv h => by
    obtain ⟨σ, G, Q, rs, ab, h, q⟩ := h
    refine ⟨σ, G, _, rs, ab, h, fun vs H1 ⟨us, G1, t1, ab1, r1, h1⟩ => ⟨by rw [← r1.length]; exact h1.1, fun p n => ?_⟩⟩
    exact q _ _ ((QV.lst ab1 n r1 h1.2).from t1)
theorem q_emp : QE T X (.Dict [] [] pos) (fun _ G Q => (∀ p, G p = none → Q (.ref p) (put G p (.dic []))) ∨ ∀ p, G p = none → Q (.ref p) (put G p (.dit []))) := by
  refine ⟨fun pins s σv H Qv I h => ?_⟩
  obtain ⟨σ, G, Q, rs, ab, h, q⟩ := h
  rcases h with h | h
  · exact pe_dnewK.run pins s σv H Qv I fun p n => q _ _ ⟨.ref p, put G p (.dic []), TL.new n, ab.put (by rw [n]; rfl) ⟨[], upd_same, .nil⟩, .ref p, h p (ab.free n)⟩
  · exact pe_dnewT.run pins s σv H Qv I fun p n => q _ _ ⟨.ref p, put G p (.dit []), TL.new n, ab.put (by rw [n]; rfl) ⟨[], upd_same, .nil⟩, .ref p, h p (ab.free n)⟩
/-! ### instances -/
theorem insU_of {K : PySem.W.Frag} {H : Hp} {G : Gp} {x : U} {v : V} {P : Addr → Nat → List (Nat × U) → Prop} (h : insU x G P) (ab : Abs T K H G) (r : RU T K H x v) : ∃ a c fs dx q, x = .ref a ∧ v = .ref a ∧ G a = some (.ins c fs) ∧ H a = some (.ins (T.cA c) dx q) ∧ FR T K H fs q ∧ P a c fs := by
  unfold insU at h
  split at h
  · rename_i a
    cases r
    split at h
    · rename_i c fs e
      obtain ⟨dx, q, h1, h2⟩ := ab _ _ e
      exact ⟨a, c, fs, dx, q, rfl, rfl, e, h1, h2, h⟩
    · exact h.elim
  · exact h.elim
theorem q_att {n : Nat} {cs : List Nat} {o : Expr} {to : TEU} (ok : ∀ c, cs.contains c = true → Cls X.K (T.cA c) ∧ NoAttr X.K (T.cA c) (T.nm n)) (ho : QE T X o to) (hb : attributeBase o (T.nm n) X.env (eval o X.env) = eval o X.env) :
    QE T X (.Attribute o (T.nm n) pos) (fun σ G Q => to σ G fun x G1 => insU x G1 fun _ c fs => cs.contains c = true ∧ (match fs.lookup n with
      | some v => Q v G1
      | none => False)) :=
  PEi (pe_fld ho hb) fun σv H Qv h => by
    obtain ⟨σ, G, Q, rs, ab, h, q⟩ := h
    refine ⟨σ, G, _, rs, ab, h, fun xv H1 ⟨x, G1, t1, ab1, rx, h1⟩ => ?_⟩
    obtain ⟨a, c, fs, dx, m, rfl, rfl, e1, e2, fr, hc, h1⟩ := insU_of h1 ab1 rx
    split at h1
    · rename_i v ev
      obtain ⟨w, hw, rw'⟩ := (fr.get).1 _ ev
      exact ⟨a, _, dx, m, w, rfl, e2, (ok c hc).1, (ok c hc).2, hw, q _ _ ⟨_, G1, t1, ab1, rw', h1⟩⟩
    · exact h1.elim
/-! ### displays of dicts -/
inductive PrU (T : Tb) (X : Cx) : List (Option Expr) → List Expr → TAU → Prop
  | nil : PrU T X [] [] (fun _ G Q => Q [] G)
  | cons {k v : Expr} {ks : List (Option Expr)} {vs : List Expr} {tk tv : TEU} {ts : TAU} : QE T X k tk → QE T X v tv → PrU T X ks vs ts →
      PrU T X (some k :: ks) (v :: vs) (fun σ G Q => tk σ G fun x G1 => tv σ G1 fun y G2 => ts σ G2 fun r G3 => Q (x :: y :: r) G3)
theorem PrU.ok {ks : List (Option Expr)} {vs : List Expr} {ts : TAU} (h : PrU T X ks vs ts) : ks.all (·.isSome) = true ∧ ks.length = vs.length ∧ ∃ trs, PPs X pos ks vs trs ∧ ∀ (σv : L2.St) (H : Hp) (Qv : List (V × V) → Hp → Prop) (σ : SU) (G : Gp) (Q : List U → Gp → Prop),
    RS T X.K H σ σv → Abs T X.K H G → ts σ G Q → (∀ prs H' us G', TL X.K H H' → Abs T X.K H' G' → RUs T X.K H' us (prs.flatMap fun p => [p.1, p.2]) → Q us G' → Qv prs H') → tPairs trs σv H Qv := by
  induction h with
  | nil => exact ⟨rfl, rfl, [], pps_nil, fun σv H Qv σ G Q rs ab h q => q [] H [] G (TL.refl _) ab .nil h⟩
  | @cons k v ks vs tk tv ts hk hv hr ih =>
    obtain ⟨i1, i2, trs, i3, i4⟩ := ih
    refine ⟨by rw [List.all_cons, i1]; rfl, by rw [List.length_cons, List.length_cons, i2], _, pps_cons hk hv i3, fun σv H Qv σ G Q rs ab h q => ?_⟩
    refine ⟨σ, G, _, rs, ab, h, fun xv H1 ⟨x, G1, t1, ab1, rx, h1⟩ => ⟨σ, G1, _, rs.mono t1, ab1, h1, fun yv H2 ⟨y, G2, t2, ab2, ry, h2⟩ => ?_⟩⟩
    refine i4 σv H2 _ σ G2 _ (rs.mono (t1.trans t2)) ab2 h2 fun prs H' us G' t' ab' r' h' => ?_
    exact q _ H' _ G' ((t1.trans t2).trans t') ab' (.cons (RU.mono (t2.trans t') _ _ rx) (.cons (RU.mono t' _ _ ry) r')) h'
theorem alt_DK {K : PySem.W.Frag} {H : Hp} : ∀ {prs : List (V × V)} {us : List U} {kvs : List (U × U)}, RUs T K H us (prs.flatMap fun p => [p.1, p.2]) → altU us = some kvs → ∃ q : List (Key × V), prs = q.map (fun kv => (kV kv.1, kv.2)) ∧ DK T K H kvs q
  | [], us, kvs, r, e => by
    cases r
    cases e
    exact ⟨[], rfl, .nil⟩
  | (p1, p2) :: prs, us, kvs, r, e => by
    rw [List.flatMap_cons] at r
    cases r with
    | cons a b =>
      cases b with
      | @cons y us v vs b c =>
        unfold altU at e
        split at e
        · rename_i k q hk hq
          cases e
          obtain ⟨m, e1, d⟩ := alt_DK c hq
          refine ⟨(k, p2) :: m, ?_, .cons hk b d⟩
          have ek : p1 = kV k := key_V hk a
          rw [List.map_cons, ← e1, ek]
        · cases e
theorem q_dsp {ks : List (Option Expr)} {vs : List Expr} {ts : TAU} (h : PrU T X ks vs ts) (h0 : ks ≠ []) (h15 : ks.length ≤ 15) : QE T X (.Dict ks vs pos) (fun σ G Q => ∀ p, G p = none → ts σ (put G p (.dic [])) fun us G1 => G1 p = some (.dic []) ∧ (match altU us with
    | some kvs => kvs.length ≤ 15 ∧ Q (.ref p) (put G1 p (.dic (mergeU [] kvs)))
    | none => False)) := by
  obtain ⟨i1, i2, trs, i3, i4⟩ := h.ok (pos := pos)
  refine PEi (pe_disp i3 i1 i2 h0 h15) fun σv H Qv h => ?_
  obtain ⟨σ, G, Q, rs, ab, h, q⟩ := h
  intro p n
  refine i4 σv _ _ σ _ _ (rs.mono (TL.new n)) (ab.put (o := .dic []) (by rw [n]; rfl) ⟨[], upd_same, .nil⟩) (h p (ab.free n)) fun prs H' us G' t' ab' r' h' => ?_
  obtain ⟨hp, h'⟩ := h'
  obtain ⟨m, hm, d0⟩ := ab' _ _ hp
  cases d0
  split at h'
  · rename_i kvs ek
    obtain ⟨m2, e2, d2⟩ := alt_DK r' ek
    have nt : isTup (H' p) = false := by rw [hm]; rfl
    refine ⟨hm, m2, e2, by rw [← d2.length]; exact h'.1, q _ _ ⟨.ref p, _, ((TL.new n).trans t').trans (TL.upd nt), ab'.put (o := .dic (mergeU [] kvs)) nt ⟨_, upd_same, (DK.merge d2 .nil).mono (TL.upd nt)⟩, .ref p, h'.2⟩⟩
  · exact h'.elim
end
/-! ### built-ins -/
def CallL (T : Tb) (X : Cx) (f : Value) (rU : R1U) : Prop := ∃ r, CallR X f r ∧ ∀ (H : Hp) (G : Gp) (us : List U) (vs : List V) (Q : UK) (Qv : VK), Abs T X.K H G → RUs T X.K H us vs → rU us G Q → (∀ v H', QV T X.K H Q v H' → Qv v H') → r vs H Qv
def MtL (T : Tb) (X : Cx) (id : String) (rU : U → R1U) : Prop := ∃ r, MtR X id r ∧ ∀ (H : Hp) (G : Gp) (x : U) (xv : V) (us : List U) (vs : List V) (Q : UK) (Qv : VK), Abs T X.K H G → RU T X.K H x xv → RUs T X.K H us vs → rU x us G Q → (∀ v H', QV T X.K H Q v H' → Qv v H') → r xv vs H Qv
section
variable {T : Tb} {X : Cx}
theorem CallR.or {f : Value} {r r' : List V → Hp → VK → Prop} (h : CallR X f r) (h' : CallR X f r') : CallR X f (fun x H Q => r x H Q ∨ r' x H Q) := by
  intro pins s σ H xs us Q I rs q
  rcases q with q | q
  · exact h pins s σ H xs us Q I rs q
  · exact h' pins s σ H xs us Q I rs q
theorem RUs.one {K : PySem.W.Frag} {H : Hp} {x : U} {vs : List V} (r : RUs T K H [x] vs) : ∃ v, vs = [v] ∧ RU T K H x v := by
  cases r with
  | cons a b => cases b; exact ⟨_, rfl, a⟩
theorem RUs.two {K : PySem.W.Frag} {H : Hp} {x y : U} {vs : List V} (r : RUs T K H [x, y] vs) : ∃ v w, vs = [v, w] ∧ RU T K H x v ∧ RU T K H y w := by
  cases r with
  | cons a b =>
    cases b with
    | cons b c => cases c; exact ⟨_, _, rfl, a, b⟩
theorem ints_RUs {K : PySem.W.Frag} {H : Hp} : ∀ {us : List U} {vs : List V} {ns : List Int}, intsU us = some ns → RUs T K H us vs → vs = ns.map V.int
  | [], _, _, e, r => by cases r; cases e; rfl
  | .int i :: us, _, _, e, r => by
    cases r with
    | cons a b =>
      unfold intsU at e
      split at e
      · rename_i zs ez
        cases e
        cases a
        rw [ints_RUs ez b]
        rfl
      · cases e
  | .non :: _, _, _, e, _ | .bl _ :: _, _, _, e, _ | .str _ :: _, _, _, e, _ | .tup _ :: _, _, _, e, _ | .rl _ :: _, _, _, e, _ | .ref _ :: _, _, _, e, _ | .ty _ :: _, _, _, e, _ | .cls _ :: _, _, _, e, _ => by cases e
theorem bls_RUs {K : PySem.W.Frag} {H : Hp} : ∀ {us : List U} {vs : List V} {ns : List Bool}, blsU us = some ns → RUs T K H us vs → vs = ns.map V.bl
  | [], _, _, e, r => by cases r; cases e; rfl
  | .bl i :: us, _, _, e, r => by
    cases r with
    | cons a b =>
      unfold blsU at e
      split at e
      · rename_i zs ez
        cases e
        cases a
        rw [bls_RUs ez b]
        rfl
      · cases e
  | .non :: _, _, _, e, _ | .int _ :: _, _, _, e, _ | .str _ :: _, _, _, e, _ | .tup _ :: _, _, _, e, _ | .rl _ :: _, _, _, e, _ | .ref _ :: _, _, _, e, _ | .ty _ :: _, _, _, e, _ | .cls _ :: _, _, _, e, _ => by cases e
theorem strs_RUs {K : PySem.W.Frag} {H : Hp} : ∀ {us : List U} {vs : List V} {ns : List Str}, strsU us = some ns → RUs T K H us vs → vs = ns.map V.str
  | [], _, _, e, r => by cases r; cases e; rfl
  | .str i :: us, _, _, e, r => by
    cases r with
    | cons a b =>
      unfold strsU at e
      split at e
      · rename_i zs ez
        cases e
        cases a
        rw [strs_RUs ez b]
        rfl
      · cases e
  | .non :: _, _, _, e, _ | .int _ :: _, _, _, e, _ | .bl _ :: _, _, _, e, _ | .tup _ :: _, _, _, e, _ | .rl _ :: _, _, _, e, _ | .ref _ :: _, _, _, e, _ | .ty _ :: _, _, _, e, _ | .cls _ :: _, _, _, e, _ => by cases e
end
end Y

namespace Y
open PySem PySem.Spec PyProof.Rows L2

/-! ### the built-ins' names and values -/
def Bi.nm : Bi → Str
  | .len => "len" | .all => "all" | .any => "any" | .sum => "sum" | .abs => "abs" | .min => "min" | .max => "max" | .int => "int" | .str => "str" | .list => "list" | .tuple => "tuple" | .isi => "isinstance" | .sorted => "sorted" | .dict => "dict"
def Bi.val : Bi → Sum String String
  | .len => .inl "len" | .all => .inl "all" | .any => .inl "any" | .sum => .inl "sum" | .abs => .inl "abs" | .min => .inl "min" | .max => .inl "max" | .int => .inr "int" | .str => .inr "str" | .list => .inr "list" | .tuple => .inr "tuple" | .isi => .inl "isinstance" | .sorted => .inl "sorted" | .dict => .inr "dict"
def valB : Sum String String → Value
  | .inl x => .builtin x
  | .inr x => .type x
theorem Bi.boot : ∀ b : Bi, bootBuiltins b.nm = some (valB b.val) := by
  intro b
  cases b <;> decide +kernel
section
variable {T : Tb} {X : Cx}
theorem ls_rd {K : PySem.W.Frag} {H : Hp} {G : Gp} {y : U} {yv : V} {xs : List U} (ab : Abs T K H G) (e : lsU G y = some xs) (r : RU T K H y yv) : ∃ p vs, yv = .ref p ∧ SqL K H p vs ∧ RUs T K H xs vs := by
  cases y with
  | ref a =>
    cases r
    obtain ⟨vs, h, r⟩ := ab.list e
    exact ⟨a, vs, rfl, .inl h, r⟩
  | rl us =>
    cases e
    cases r with
    | rl s r => exact ⟨_, _, rfl, s.sq, r⟩
  | _ => cases e
theorem ty_of {K : PySem.W.Frag} {H : Hp} {G : Gp} {x : U} {v : V} {t : BT} (ab : Abs T K H G) (e : tyU G x = some t) (r : RU T K H x v) : TyX K H v (.type t.nm) := by
  cases x with
  | non => cases e; cases r; exact .base .non
  | bl b => cases e; cases r; exact .base (.bl b)
  | int b => cases e; cases r; exact .base (.int b)
  | str b => cases e; cases r; exact .base (.str b)
  | tup us =>
    cases e
    cases r with
    | tup s r =>
      rcases s with s | ⟨o, its, n, h1, h2, _⟩
      · exact .base (.tup s)
      · exact .kTuple h1 h2
  | rl us =>
    cases e
    cases r with
    | rl s r =>
      rcases s with ⟨ob, s⟩ | ⟨o, its, n, h1, h2, _⟩
      · exact .base (.frz s)
      · exact .kList h1 h2
  | ref a =>
    cases r
    unfold tyU at e
    cases q : G a with
    | none => simp only [q] at e; cases e
    | some o =>
      have z := ab a o q
      simp only [q] at e
      cases o with
      | lst us => cases e; obtain ⟨vs, h, _⟩ := z; exact .base (.lst h)
      | dic kvs => cases e; obtain ⟨q, h, _⟩ := z; exact .base (.dK h)
      | dit kvs => cases e; obtain ⟨q, h, _⟩ := z; exact .base (.dT h)
      | ins c fs => cases e
      | exc c fs => cases e
  | ty n => cases e
  | cls n => cases e
theorem kit_sub : ∀ a b : BT, kitB a.nm b.nm = some (a.sub b) := by
  intro a b
  cases a <;> cases b <;> decide +kernel
theorem bts_RUs {K : PySem.W.Frag} {H : Hp} : ∀ {us : List U} {vs : List V} {ns : List BT}, btsU us = some ns → RUs T K H us vs → Paired ClsV vs (ns.map fun n => Value.type n.nm)
  | [], _, _, e, r => by cases r; cases e; exact .nil
  | .ty i :: us, _, _, e, r => by
    cases r with
    | cons a b =>
      unfold btsU at e
      split at e
      · rename_i zs ez
        cases e
        cases a
        exact .cons (.ty _) (bts_RUs ez b)
      · cases e
  | .non :: _, _, _, e, _ | .int _ :: _, _, _, e, _ | .bl _ :: _, _, _, e, _ | .tup _ :: _, _, _, e, _ | .rl _ :: _, _, _, e, _ | .ref _ :: _, _, _, e, _ | .str _ :: _, _, _, e, _ | .cls _ :: _, _, _, e, _ => by cases e
theorem kits {K : PySem.W.Frag} (m : BT) : ∀ ns : List BT, PySem.W.kitAny K (.type m.nm) (ns.map fun n => Value.type n.nm) = some (ns.any fun n => m.sub n)
  | [] => kitAny_nil
  | n :: ns => by
    rw [List.map_cons, List.any_cons]
    refine kitAny_cons (kit_ty (kit_sub m n)) (fun e => ?_) (fun e => ?_)
    · rw [kits m ns, e]; rfl
    · rw [e]; rfl
/-- isinstance(x, (..)) of any standing tuple of built-in classes -/
theorem vals_cls : ∀ {ns : List BT} {vs : List V} {us : List Value}, Paired ClsV vs (ns.map fun n => Value.type n.nm) → Vals vs us → us = ns.map fun n => Value.type n.nm := fun p r => ClsV.all p r
theorem DK.keys {K : PySem.W.Frag} {H : Hp} : ∀ {kvs : List (U × U)} {q : List (Key × V)}, DK T K H kvs q → RUs T K H (kvs.map (·.1)) (q.map fun kv => kV kv.1)
  | _, _, .nil => .nil
  | _, _, .cons (u := u) (k := k) e r d => by
    refine .cons ?_ d.keys
    cases u <;> first
      | (cases e; done)
      | (cases e; first
        | exact .int _
        | exact .str _)
theorem pairs_DK {K : PySem.W.Frag} {H : Hp} : ∀ {xs : List U} {vs : List V} {kvs : List (U × U)}, pairsU xs = some kvs → RUs T K H xs vs → ∃ (ps : List Addr) (q : List (Key × V)), vs = ps.map V.ref ∧ Paired (fun p kv => SqT K H p [kV kv.1, kv.2]) ps q ∧ DK T K H kvs q
  | [], vs, kvs, e, r => by
    cases r
    cases e
    exact ⟨[], [], rfl, .nil, .nil⟩
  | x :: xs, vs, kvs, e, r => by
    cases r with
    | cons a b =>
      unfold pairsU at e
      split at e
      · rename_i h1
        cases h1
      · rename_i k y r' h1
        cases h1
        split at e
        · rename_i key q hk hq
          cases e
          obtain ⟨ps, m, e1, e2, d⟩ := pairs_DK hq b
          cases a with
          | @tup p zs _ s rr =>
            obtain ⟨z1, z2, rfl, r1, r2⟩ := rr.two
            have ek : z1 = kV key := key_V hk r1
            subst ek
            exact ⟨p :: ps, (key, z2) :: m, by rw [e1]; rfl, .cons s.sq e2, .cons hk r2 d⟩
        · cases e
      · cases e
theorem bi_ok (hc : X.calm = true) : ∀ b : Bi, CallL T X (valB b.val) (biU b)
  | .len => ⟨_, CallR.or (CallR.or call_len_seq call_len_str) call_lenD, fun H G us vs Q Qv ab r h q => by
    simp only [biU] at h
    split at h
    · rename_i x
      obtain ⟨v, rfl, rx⟩ := r.one
      unfold lenU at h
      split at h
      · cases rx
        exact .inl (.inr ⟨_, rfl, h.1, q _ _ (QV.same ab (.int _) h.2)⟩)
      · split at h
        · rename_i xs e
          obtain ⟨p, ws, rfl, s, rr⟩ := rd_sq ab e rx
          exact .inl (.inl ⟨p, ws, rfl, s, q _ _ (QV.same ab (.int _) (by rw [← rr.length]; exact h))⟩)
        · split at h
          · rename_i kvs e
            obtain ⟨a, m, rfl, rfl, hm, d⟩ := dic_of ab e rx
            exact .inr ⟨a, m, rfl, hm, q _ _ (QV.same ab (.int _) (by rw [← d.length]; exact h))⟩
          · exact h.elim
    · exact h.elim⟩
  | .all => ⟨_, cr_all hc, fun H G us vs Q Qv ab r h q => by
    simp only [biU] at h
    split at h
    · obtain ⟨v, rfl, rx⟩ := r.one
      split at h
      · rename_i xs e
        obtain ⟨p, ws, rfl, s, rr⟩ := ls_rd ab e rx
        split at h
        · rename_i bs eb
          rw [bls_RUs eb rr] at s
          exact ⟨p, bs, rfl, s, q _ _ (QV.same ab (.bl _) h)⟩
        · exact h.elim
      · exact h.elim
    · exact h.elim⟩
  | .any => ⟨_, cr_any hc, fun H G us vs Q Qv ab r h q => by
    simp only [biU] at h
    split at h
    · obtain ⟨v, rfl, rx⟩ := r.one
      split at h
      · rename_i xs e
        obtain ⟨p, ws, rfl, s, rr⟩ := ls_rd ab e rx
        split at h
        · rename_i bs eb
          rw [bls_RUs eb rr] at s
          exact ⟨p, bs, rfl, s, q _ _ (QV.same ab (.bl _) h)⟩
        · exact h.elim
      · exact h.elim
    · exact h.elim⟩
  | .sum => ⟨_, cr_sum hc, fun H G us vs Q Qv ab r h q => by
    simp only [biU] at h
    split at h
    · obtain ⟨v, rfl, rx⟩ := r.one
      split at h
      · rename_i xs e
        obtain ⟨p, ws, rfl, s, rr⟩ := ls_rd ab e rx
        split at h
        · rename_i bs eb
          rw [ints_RUs eb rr] at s
          exact ⟨p, bs, rfl, s, q _ _ (QV.same ab (.int _) h)⟩
        · exact h.elim
      · exact h.elim
    · exact h.elim⟩
  | .abs => ⟨_, call_abs, fun H G us vs Q Qv ab r h q => by
    simp only [biU] at h
    split at h
    · obtain ⟨v, rfl, rx⟩ := r.one
      cases rx
      exact ⟨_, rfl, q _ _ (QV.same ab (.int _) h)⟩
    · exact h.elim⟩
  | .min => ⟨_, CallR.or (call_min2 hc) (cr_min hc), fun H G us vs Q Qv ab r h q => by
    simp only [biU] at h
    split at h
    · obtain ⟨v, w, rfl, rx, ry⟩ := r.two
      cases rx; cases ry
      exact .inl ⟨_, _, rfl, q _ _ (QV.same ab (.int _) h)⟩
    · obtain ⟨v, rfl, rx⟩ := r.one
      split at h
      · rename_i xs e
        obtain ⟨p, ws, rfl, s, rr⟩ := ls_rd ab e rx
        split at h
        · rename_i bs eb
          rw [ints_RUs eb rr] at s
          exact .inr ⟨p, bs, rfl, s, h.1, fun m h1 h2 => q _ _ (QV.same ab (.int _) (h.2 m h1 h2))⟩
        · exact h.elim
      · exact h.elim
    · exact h.elim⟩
  | .max => ⟨_, CallR.or (call_max2 hc) (cr_max hc), fun H G us vs Q Qv ab r h q => by
    simp only [biU] at h
    split at h
    · obtain ⟨v, w, rfl, rx, ry⟩ := r.two
      cases rx; cases ry
      exact .inl ⟨_, _, rfl, q _ _ (QV.same ab (.int _) h)⟩
    · obtain ⟨v, rfl, rx⟩ := r.one
      split at h
      · rename_i xs e
        obtain ⟨p, ws, rfl, s, rr⟩ := ls_rd ab e rx
        split at h
        · rename_i bs eb
          rw [ints_RUs eb rr] at s
          exact .inr ⟨p, bs, rfl, s, h.1, fun m h1 h2 => q _ _ (QV.same ab (.int _) (h.2 m h1 h2))⟩
        · exact h.elim
      · exact h.elim
    · exact h.elim⟩
  | .int => ⟨_, call_int_str, fun H G us vs Q Qv ab r h q => by
    simp only [biU] at h
    split at h
    · obtain ⟨v, rfl, rx⟩ := r.one
      cases rx
      obtain ⟨n, h1, h2, h3⟩ := h
      exact ⟨_, n, rfl, h1, h2, q _ _ (QV.same ab (.int _) h3)⟩
    · exact h.elim⟩
  | .str => ⟨_, call_str_int, fun H G us vs Q Qv ab r h q => by
    simp only [biU] at h
    split at h
    · obtain ⟨v, rfl, rx⟩ := r.one
      cases rx
      exact ⟨_, rfl, h.1, q _ _ (QV.same ab (.str _) h.2)⟩
    · exact h.elim⟩
  | .list => ⟨_, CallR.or call_list_of (call_listD hc), fun H G us vs Q Qv ab r h q => by
    simp only [biU] at h
    split at h
    · obtain ⟨v, rfl, rx⟩ := r.one
      split at h
      · rename_i xs e
        obtain ⟨p, ws, rfl, s, rr⟩ := rd_sq ab e rx
        exact .inl ⟨p, ws, rfl, s, fun l n => q _ _ (QV.lst ab n rr h)⟩
      · split at h
        · rename_i kvs e
          obtain ⟨a, m, rfl, rfl, hm, d⟩ := dic_of ab e rx
          exact .inr ⟨a, m, rfl, .inl hm, fun l n => q _ _ (QV.lst ab n d.keys h)⟩
        · exact h.elim
    · exact h.elim⟩
  | .sorted => ⟨_, cr_sortedI, fun H G us vs Q Qv ab r h q => by
    simp only [biU] at h
    split at h
    · obtain ⟨v, rfl, rx⟩ := r.one
      split at h
      · rename_i xs e
        obtain ⟨p, ws, rfl, s, rr⟩ := ls_rd ab e rx
        split at h
        · rename_i bs eb
          rw [ints_RUs eb rr] at s
          exact ⟨p, bs, rfl, s, fun ns' l h1 h2 n => q _ _ (QV.lst ab n (RUs.ints ns') fun l' n' => h ns' l' h1 h2 n')⟩
        · exact h.elim
      · exact h.elim
    · exact h.elim⟩
  | .dict => ⟨_, CallR.or (call_dictP hc) call_dictD, fun H G us vs Q Qv ab r h q => by
    simp only [biU] at h
    split at h
    · obtain ⟨v, rfl, rx⟩ := r.one
      split at h
      · rename_i xs e
        obtain ⟨p, ws, rfl, s, rr⟩ := ls_rd ab e rx
        split at h
        · rename_i kvs eb
          obtain ⟨ps, m, e1, e2, d⟩ := pairs_DK eb rr
          rw [e1] at s
          exact .inl ⟨p, ps, m, rfl, s, e2, fun l n => q _ _ ⟨.ref l, _, TL.new n, ab.put (o := .dic (mergeU [] kvs)) (by rw [n]; rfl) ⟨_, upd_same, (DK.merge d .nil).mono (TL.new n)⟩, .ref l, h l (ab.free n)⟩⟩
        · exact h.elim
      · split at h
        · rename_i kvs e
          obtain ⟨a, m, rfl, rfl, hm, d⟩ := dic_of ab e rx
          exact .inr ⟨a, m, rfl, .inl hm, fun l n => q _ _ ⟨.ref l, _, TL.new n, ab.put (o := .dic kvs) (by rw [n]; rfl) ⟨_, upd_same, d.mono (TL.new n)⟩, .ref l, h l (ab.free n)⟩⟩
        · exact h.elim
    · exact h.elim⟩
  | .tuple => ⟨_, call_tuple_of, fun H G us vs Q Qv ab r h q => by
    simp only [biU] at h
    split at h
    · rename_i x
      obtain ⟨v, rfl, rx⟩ := r.one
      cases x with
      | tup us =>
        cases rx with
        | tup s rr => exact ⟨_, _, rfl, .inr ⟨s.sq, q _ _ (QV.same ab (.tup s rr) h)⟩⟩
      | ref a =>
        split at h
        · rename_i xs e
          cases rx
          obtain ⟨ws, hr, rr⟩ := ab.list e
          exact ⟨a, ws, rfl, .inl ⟨.inl hr, fun l n => q _ _ (QV.tup ab n rr h)⟩⟩
        · exact h.elim
      | rl us =>
        cases rx with
        | rl s rr => exact ⟨_, _, rfl, .inl ⟨s.sq, fun l n => q _ _ (QV.tup ab n rr h)⟩⟩
      | _ => exact h.elim
    · exact h.elim⟩
  | .isi => ⟨_, CallR.or call_isi (CallR.or call_isiT call_isiK), fun H G us vs Q Qv ab r h q => by
    simp only [biU] at h
    split at h
    · obtain ⟨v, w, rfl, rx, ry⟩ := r.two
      cases ry
      split at h
      · rename_i m e
        exact .inl ⟨_, _, _, _, _, rfl, .ty _, ty_of ab e rx, kit_ty (kit_sub _ _), q _ _ (QV.same ab (.bl _) h)⟩
      · exact h.elim
    · obtain ⟨v, w, rfl, rx, ry⟩ := r.two
      split at h
      · rename_i m ns e1 e2
        cases ry with
        | @tup p ws _ s rr =>
          have pc := bts_RUs e2 rr
          rcases s with s | ⟨o, its, n, h1, h2, h3, h4, h5⟩
          · exact .inr (.inl ⟨_, p, ws, _, _, _, rfl, s, pc, ty_of ab e1 rx, kits _ _, q _ _ (QV.same ab (.bl _) h)⟩)
          · have e5 := ClsV.all pc h5
            obtain ⟨oc, od, dt, sl⟩ := o
            simp only at h2 h3
            subst h2 h3
            refine .inr (.inr ⟨_, p, od, _, n, sl, _, _, rfl, ?_, ty_of ab e1 rx, kits m ns, q _ _ (QV.same ab (.bl _) h)⟩)
            rw [← e5]
            simpa using h1
      · exact h.elim
    · exact h.elim⟩
end
/-! ### methods of built-in types -/
def Bm.ty : Bm → String
  | .append => "list" | .extend => "list" | .startswith => "str" | .split => "str" | .join => "str" | .sindex => "str"
def Bm.nm : Bm → Str
  | .append => "append" | .extend => "extend" | .startswith => "startswith" | .split => "split" | .join => "join" | .sindex => "index"
def Bm.id : Bm → String
  | .append => "list.append" | .extend => "list.extend" | .startswith => "str.startswith" | .split => "str.split" | .join => "str.join" | .sindex => "str.index"
structure BmF (m : Bm) : Prop where
  pa : PlainAttrs m.ty
  slot : Slot m.ty m.nm m.id
  ty : typeOf (.builtin m.id) = pure (.type "method_descriptor")
theorem bm_facts : ∀ m : Bm, BmF m
  | .append => ⟨PySem.F.plainAttrs_list, PySem.F.slot_list_append, PySem.F.type_list_append⟩
  | .extend => ⟨PySem.F.plainAttrs_list, PySem.F.slot_list_extend, PySem.F.type_list_extend⟩
  | .startswith => ⟨PySem.F.plainAttrs_str, PySem.F.slot_str_startswith, PySem.F.type_str_startswith⟩
  | .split => ⟨PySem.F.plainAttrs_str, PySem.F.slot_str_split, PySem.F.type_str_split⟩
  | .join => ⟨PySem.F.plainAttrs_str, PySem.F.slot_str_join, PySem.F.type_str_join⟩
  | .sindex => ⟨PySem.F.plainAttrs_str, PySem.F.slot_str_index, PySem.F.type_str_index⟩
section
variable {T : Tb} {X : Cx}
/-- a written list -/
theorem QV.wr {K : PySem.W.Frag} {H : Hp} {G : Gp} {Q : UK} {us : List U} {vs ws : List V} {p : Addr} {x : U} {v : V} (ab : Abs T K H G) (n : H p = some (.lst ws)) (r : RUs T K H us vs) (rx : ∀ H', RU T K H' x v) (q : Q x (put G p (.lst us))) : QV T K H Q v (upd H p (.lst vs)) := by
  have nt : isTup (H p) = false := by rw [n]; rfl
  exact ⟨x, put G p (.lst us), TL.upd nt, ab.put nt ⟨vs, upd_same, RUs.mono (TL.upd nt) _ _ r⟩, rx _, q⟩
theorem mt_sindex : MtR X "str.index" (fun x xs H Q => ∃ a b, x = .str a ∧ xs = [.str b] ∧ ∃ k, Txt.index0 a b = some k ∧ Q (.int (k : Nat)) H) := by
  intro pins s σ H x xs v us Q I rx rs h
  obtain ⟨a, b, rfl, rfl, k, hk, h⟩ := h
  obtain ⟨t, rfl⟩ := rx
  obtain ⟨u, rfl, ru⟩ := rs.one
  obtain ⟨t', rfl⟩ := ru
  cases q : Builtin.Str.occurrences a b 0 a.length 1 with
  | nil => unfold Txt.index0 at hk; rw [q] at hk; cases hk
  | cons k' rest =>
    have e : k' = k := by unfold Txt.index0 at hk; rw [q] at hk; exact Option.some.inj hk
    subst e
    exact PySem.SC.index q ⟨.int (k' : Nat), H, I.tok _, ⟨_, rfl⟩, h⟩
theorem bm_ok : ∀ m : Bm, MtL T X m.id (bmU m)
  | .append => ⟨_, mt_append, fun H G x xv us vs Q Qv ab rx r h q => by
    simp only [bmU] at h
    split at h
    · rename_i a y
      cases rx
      obtain ⟨v, rfl, ry⟩ := r.one
      split at h
      · rename_i xs e
        obtain ⟨ws, hw, rw'⟩ := ab _ _ e
        exact ⟨_, ws, v, rfl, rfl, hw, by rw [← rw'.length]; exact h.1, q _ _ (QV.wr ab hw (rw'.append (.cons ry .nil)) (fun _ => .non) h.2)⟩
      · exact h.elim
    · exact h.elim⟩
  | .extend => ⟨_, mt_extend, fun H G x xv us vs Q Qv ab rx r h q => by
    simp only [bmU] at h
    split at h
    · rename_i a y
      cases rx
      obtain ⟨v, rfl, ry⟩ := r.one
      cases ry
      split at h
      · rename_i xs ys e1 e2
        obtain ⟨ws, hw, rw'⟩ := ab _ _ e1
        obtain ⟨zs, hz, rz⟩ := ab _ _ e2
        exact ⟨_, _, ws, zs, rfl, rfl, hw, hz, by rw [← rw'.length, ← rz.length]; exact h.1, q _ _ (QV.wr ab hw (rw'.append rz) (fun _ => .non) h.2)⟩
      · exact h.elim
    · exact h.elim⟩
  | .startswith => ⟨_, mt_startswith, fun H G x xv us vs Q Qv ab rx r h q => by
    simp only [bmU] at h
    split at h
    · cases rx
      obtain ⟨v, rfl, ry⟩ := r.one
      cases ry
      exact ⟨_, _, rfl, rfl, q _ _ (QV.same ab (.bl _) h)⟩
    · exact h.elim⟩
  | .split => ⟨_, mt_split, fun H G x xv us vs Q Qv ab rx r h q => by
    simp only [bmU] at h
    split at h
    · cases rx
      obtain ⟨v, rfl, ry⟩ := r.one
      cases ry
      exact ⟨_, _, rfl, rfl, h.1, h.2.1, fun p n => q _ _ (QV.lst ab n (RUs.strs _) h.2.2)⟩
    · exact h.elim⟩
  | .join => ⟨_, mt_join, fun H G x xv us vs Q Qv ab rx r h q => by
    simp only [bmU] at h
    split at h
    · cases rx
      obtain ⟨v, rfl, ry⟩ := r.one
      split at h
      · rename_i ys e
        obtain ⟨p, ws, rfl, s, rr⟩ := rd_sq ab e ry
        split at h
        · rename_i zs ez
          rw [strs_RUs ez rr] at s
          exact ⟨_, p, zs, rfl, rfl, s, h.1, q _ _ (QV.same ab (.str _) h.2)⟩
        · exact h.elim
      · exact h.elim
    · exact h.elim⟩
  | .sindex => ⟨_, mt_sindex, fun H G x xv us vs Q Qv ab rx r h q => by
    simp only [bmU] at h
    split at h
    · cases rx
      obtain ⟨v, rfl, ry⟩ := r.one
      cases ry
      split at h
      · rename_i k ek
        exact ⟨_, _, rfl, rfl, k, ek, q _ _ (QV.same ab (.int _) h)⟩
      · exact h.elim
    · exact h.elim⟩
theorem tm_ok {m : Bm} {K : PySem.W.Frag} {H : Hp} {G : Gp} {x : U} {xv : V} (ab : Abs T K H G) (rx : RU T K H x xv) (h : tmU m x G) : tyV K m.ty xv H := by
  unfold tmU at h
  split at h
  · cases rx
    obtain ⟨xs, e⟩ := Option.isSome_iff_exists.mp h
    obtain ⟨vs, hr, _⟩ := ab.list e
    exact .inl ⟨rfl, vs, .inl hr⟩
  · cases rx
    obtain ⟨xs, e⟩ := Option.isSome_iff_exists.mp h
    obtain ⟨vs, hr, _⟩ := ab.list e
    exact .inl ⟨rfl, vs, .inl hr⟩
  · cases rx; rfl
  · cases rx; rfl
  · cases rx; rfl
  · cases rx; rfl
  · exact h.elim
end
/-! ### calls -/
section
variable {T : Tb} {X : Cx} {e o : Expr} {es : List Expr} {te to : TEU} {ts : TAU} {p pos apos : Pos}
theorem qb_below {f : Value} {rU : R1U} {r : List V → Hp → VK → Prop} (i : ∀ (H : Hp) (G : Gp) (us : List U) (vs : List V) (Q : UK) (Qv : VK), Abs T X.K H G → RUs T X.K H us vs → rU us G Q → (∀ v H', QV T X.K H Q v H' → Qv v H') → r vs H Qv)
    (σv : L2.St) (H : Hp) (Qv : VK) (h : lE T X.K (fun σ G Q => ts σ G fun us G1 => rU us G1 Q) σv H Qv) : tCB r (lA T X.K ts) σv H Qv := by
  obtain ⟨σ, G, Q, rs, ab, h, q⟩ := h
  refine ⟨σ, G, _, rs, ab, h, fun vs H1 ⟨us, G1, t1, ab1, r1, h1⟩ => ?_⟩
  exact i H1 G1 us vs Q Qv ab1 r1 h1 fun v H' z => q v H' (z.from t1)
theorem q_blt {b : Bi} (hc : X.calm = true) (hg : Gl X b.nm) (hm : X.mg b.nm = none) (ha : QA T X (e :: es) ts) (he : starEach (e :: es) X.env = (false, eval e X.env) :: starEach es X.env) (hpl : (backTo pos (starEach es X.env)).any (·.1) = false) :
    QE T X (.Call (.Name b.nm p) (e :: es) [] pos) (fun σ G Q => ts σ G fun us G1 => biU b us G1 Q) := by
  obtain ⟨r, hr, i⟩ := bi_ok (T := T) hc b
  have hv := b.boot
  have hn : b.nm ≠ "__name__" := by cases b <;> decide +kernel
  have hd : (b.nm == ("__debug__" : Str)) = false := by cases b <;> decide +kernel
  cases hb : b.val with
  | inl x => rw [hb] at hr hv; exact PEi (pe_callB hr hg hm hv ha hn hd he hpl) (qb_below (f := .none) i)
  | inr x => rw [hb] at hr hv; exact PEi (pe_callTy hr hg hm hv ha hn hd he hpl) (qb_below (f := .none) i)
theorem q_btm {m : Bm} (ho : QE T X o to) (ha : QA T X (e :: es) ts) (hbase : attributeBase o m.nm X.env (eval o X.env) = eval o X.env)
    (hfew : ((backTo pos (starEach (e :: es) X.env)).all (fun x => !x.1) && (backToKw pos (keywordEach [] X.env)).all (fun x => x.1.isSome) && decide ((e :: es).length + ([] : List Keyword).length + (if ([] : List Keyword).isEmpty then 0 else 1) < 30)) = true)
    (hline : (apos.endLine == pos.line) = true) (hs : starEach (e :: es) X.env = (false, eval e X.env) :: starEach es X.env) (hplain : (backTo pos (starEach es X.env)).any (·.1) = false) :
    QE T X (.Call (.Attribute o m.nm apos) (e :: es) [] pos) (fun σ G Q => to σ G fun x G1 => tmU m x G1 ∧ ts σ G1 fun us G2 => bmU m x us G2 Q) := by
  obtain ⟨r, hr, i⟩ := bm_ok (T := T) (X := X) m
  refine PEi (pe_bm (bm_facts m).pa (bm_facts m).slot (bm_facts m).ty hr ho ha hbase hfew hline hs hplain) fun σv H Qv h => ?_
  obtain ⟨σ, G, Q, rs, ab, h, q⟩ := h
  refine ⟨σ, G, _, rs, ab, h, fun xv H1 ⟨x, G1, t1, ab1, rx, h1⟩ => ⟨tm_ok ab1 rx h1.1, σ, G1, _, rs.mono t1, ab1, h1.2, fun vs H2 ⟨us, G2, t2, ab2, r2, h2⟩ => ?_⟩⟩
  exact i H2 G2 x xv us vs Q Qv ab2 (RU.mono t2 _ _ rx) r2 h2 fun v H' z => q v H' (z.from (t1.trans t2))
/-! ### a def's promise above, and its call -/
def lX (T : Tb) (K : PySem.W.Frag) (H : Hp) (E : XU) : XK := fun cls d H' => ∃ c fs G', cls = .ref (T.cA c) ∧ TL K H H' ∧ Abs T K H' G' ∧ ((d = none ∧ fs = []) ∨ ∃ dd q, d = some dd ∧ H' dd = some (.xd q) ∧ FR T K H' fs q) ∧ E c fs G'
def lSp (T : Tb) (K : PySem.W.Frag) (n : Nat) (sp : SpU) : Sp := fun vs H Qv Ev => ∃ us G Q E, us.length = n ∧ RUs T K H us vs ∧ Abs T K H G ∧ sp us G Q E ∧ (∀ v H', QV T K H Q v H' → Qv v H') ∧ ∀ c d H', lX T K H E c d H' → Ev c d H'
theorem lSp_len {K : PySem.W.Frag} {n : Nat} {sp : SpU} (vs : List V) (H : Hp) (Q : VK) (E : XK) (h : lSp T K n sp vs H Q E) : vs.length = n := by
  obtain ⟨us, G, Qu, Eu, hl, r, _⟩ := h
  rw [← r.length]; exact hl
/-- the wish about exceptions above, below -/
def WU (T : Tb) (K : PySem.W.Frag) (E : XS) : WX := fun cls d σv H' => ∃ c fs σ G', cls = .ref (T.cA c) ∧ RS T K H' σ σv ∧ Abs T K H' G' ∧ ((d = none ∧ fs = []) ∨ ∃ dd q, d = some dd ∧ H' dd = some (.xd q) ∧ FR T K H' fs q) ∧ E c fs σ G'
end
end Y

namespace Y
open PySem PySem.Spec PyProof.Rows L2

/-! ### calls of the program's own defs -/
section
variable {T : Tb} {X : Cx} {e o : Expr} {es : List Expr} {te to : TEU} {ts : TAU} {p pos apos : Pos} {k : Nat} {f : Addr} {sp : SpU} {E : XS} {x : Str}
/-- as FnAt, the number of the parameters told -/
structure FnN (T : Tb) (P : Program) (w : World) (K : PySem.W.Frag) (mg : Str → Option Value) (base : Heap) (k : Nat) (f : Addr) (n : Nat) (sp : SpU) : Prop where
  ex : ∃ fd ps, PySem.W.keepIn K (.ref f) = true ∧ Binds K fd ps [] ∧ ps.length = n ∧ FnOk P w K mg base (L2.CX P w) k f fd ps (lSp T K n sp)
theorem run_n {pins : List (Addr × Obj)} {σv : L2.St} {H : Hp} {s : Shared} {Qv : VK} {Q : UK} {us : List Value} {vs : List V} {xs : List U} {σ : SU} {G : Gp} {n : Nat} (F : FnN T X.prog X.w X.K X.mg X.base k f n sp) (hr : Room k X.A) (tk : Takes X (WU T X.K E))
    (I : Inv X pins σv H s) (r : Vals vs us) (rx : RUs T X.K H xs vs) (ab : Abs T X.K H G) (rs : RS T X.K H σ σv) (hl : xs.length = n)
    (h : sp xs G Q fun c fs G' => E c fs σ G') (q : ∀ v H', QV T X.K H Q v H' → Qv v H') : wpAny (model X.prog X.w) X.A (call (.ref f) us) (EP X pins σv Qv) X.xe s := by
  obtain ⟨fd, ps, kp, hb, hn, F⟩ := F.ex
  refine run_fnSD (E := WE (WU T X.K E)) (dvs := []) F hr hb .nil (passAt tk σv) I r ?_
  rw [List.append_nil]
  refine ⟨xs, G, Q, _, hl, rx, ab, h, q, fun c d H' z => ?_⟩
  obtain ⟨cc, fs, G', ec, t, ab', hd, he⟩ := z
  exact ⟨cc, fs, σ, G', ec, rs.mono t, ab', hd, he⟩
def callU (sp : SpU) (n : Nat) (E : XS) (ts : TAU) : TEU := fun σ G Q => ts σ G fun us G1 => us.length = n ∧ sp us G1 Q fun c fs G' => E c fs σ G'
theorem q_call {n : Nat} (F : FnN T X.prog X.w X.K X.mg X.base k f n sp) (hr : Room k X.A) (tk : Takes X (WU T X.K E)) (hg : Gl X x) (hm : X.mg x = some (.ref f)) (hdb : (x == ("__debug__" : Str)) = false) (ha : QA T X (e :: es) ts)
    (he : starEach (e :: es) X.env = (false, eval e X.env) :: starEach es X.env) (hpl : (backTo pos (starEach es X.env)).any (·.1) = false) : QE T X (.Call (.Name x p) (e :: es) [] pos) (callU sp n E ts) := by
  refine ⟨fun pins s σv H Qv I h => ?_⟩
  obtain ⟨σ, G, Q, rs, ab, h, q⟩ := h
  have kp : PySem.W.keepIn X.K (.ref f) = true := by obtain ⟨_, _, kp, _⟩ := F.ex; exact kp
  refine wpAny_Call_Name_kw (ld_glob I hg hm ?_ hdb)
  refine PySem.W.callWith_K (h₀ := X.base) I.ok.mod.kin kp (thn (ha.run pos pins s σv H _ I ⟨σ, G, _, rs, ab, h, fun _ _ z => z⟩) fun us s1 ⟨vs, H1, I1, r, xs, G1, t1, ab1, r1, hl, h1⟩ => ⟨I1.kIn, ?_⟩) he hpl
  exact run_n F hr tk I1 r r1 ab1 (rs.mono t1) hl h1 fun v H' z => q v H' (z.from t1)
theorem q_call0 {n : Nat} (F : FnN T X.prog X.w X.K X.mg X.base k f n sp) (hr : Room k X.A) (tk : Takes X (WU T X.K E)) (hg : Gl X x) (hm : X.mg x = some (.ref f)) (hdb : (x == ("__debug__" : Str)) = false) : QE T X (.Call (.Name x p) [] [] pos) (callU sp n E fun _ G Q => Q [] G) := by
  refine ⟨fun pins s σv H Qv I h => ?_⟩
  obtain ⟨σ, G, Q, rs, ab, ⟨hl, h⟩, q⟩ := h
  have kp : PySem.W.keepIn X.K (.ref f) = true := by obtain ⟨_, _, kp, _⟩ := F.ex; exact kp
  refine wpAny_Call_Name_kw (ld_glob I hg hm ?_ hdb)
  exact PySem.W.callWith_K0 I.kIn kp (run_n (us := []) F hr tk I .nil .nil ab rs hl h q)
end
/-! ### methods, instances made -/
theorem meth_tree {o : Expr} {m : Str} {apos pos : Pos} {args : List Expr} {env : Env} (hb : attributeBase o m env (eval o env) = eval o env) (hf : methodCallForm args.length (backTo pos (starEach args env)) (backToKw pos (keywordEach [] env)) = true)
    (hl : (apos.endLine == pos.line) = true) : eval (.Call (.Attribute o m apos) args [] pos) env = (do
      let ov ← eval o env
      standAt apos.atName
      let (f, first) ← holding [ov] (getMethod ov m (do return (← importBound o env).getD true))
      callWith pos f first (backTo pos (starEach args env)) (backToKw pos (keywordEach [] env))) := by
  refine mcall_of (kws := []) hb fun ov => ?_
  unfold methodCall calleeOf methodCallPos
  have hf' : methodCallForm (args.length + ([] : List Keyword).length) (backTo pos (starEach args env)) (backToKw pos (keywordEach [] env)) = true := hf
  rw [hf']
  simp only [if_true, hl, Bool.not_true, Bool.false_or, pure_bind]
section
variable {T : Tb} {X : Cx} {e o : Expr} {es : List Expr} {te to : TEU} {ts : TAU} {p pos apos : Pos} {k : Nat} {E : XS} {Γ : Gm} {n : Nat} {tbl : List (Nat × Nat)}
structure MthN (T : Tb) (P : Program) (w : World) (K : PySem.W.Frag) (mg : Str → Option Value) (base : Heap) (k c n : Nat) (ar : Nat) (sp : SpU) : Prop where
  ex : ∃ fa, Cls K (T.cA c) ∧ Meth K (T.cA c) (T.nm n) fa ∧ FnN T P w K mg base k fa ar sp
def mthU (Γ : Gm) (n : Nat) (tbl : List (Nat × Nat)) (E : XS) (to : TEU) (ts : TAU) : TEU := fun σ G Q => to σ G fun x G1 => insU x G1 fun a c fs => fs.lookup n = none ∧ (match tbl.lookup c with
    | some f => ts σ G1 fun us G2 => us.length + 1 = Γ.ar f ∧ Γ.fn f (.ref a :: us) G2 Q fun c fs G' => E c fs σ G'
    | none => False)
theorem q_mth (ok : ∀ c f, tbl.lookup c = some f → MthN T X.prog X.w X.K X.mg X.base k c n (Γ.ar f) (Γ.fn f)) (hr : Room k X.A) (tk : Takes X (WU T X.K E)) (ho : QE T X o to) (ha : QA T X (e :: es) ts)
    (hb : attributeBase o (T.nm n) X.env (eval o X.env) = eval o X.env) (hf : methodCallForm (e :: es).length (backTo pos (starEach (e :: es) X.env)) (backToKw pos (keywordEach [] X.env)) = true) (hl : (apos.endLine == pos.line) = true)
    (he : starEach (e :: es) X.env = (false, eval e X.env) :: starEach es X.env) (hpl : (backTo pos (starEach es X.env)).any (·.1) = false) :
    QE T X (.Call (.Attribute o (T.nm n) apos) (e :: es) [] pos) (mthU Γ n tbl E to ts) := by
  refine ⟨fun pins s σv H Qv I h => ?_⟩
  obtain ⟨σ, G, Q, rs, ab, h, q⟩ := h
  refine PySem.W.methodCall_KW (thn (ho.run pins s σv H _ I ⟨σ, G, _, rs, ab, h, fun _ _ z => z⟩) fun ov s1 ⟨xv, H1, I1, rv, x, G1, t1, ab1, rx, h1⟩ => ?_) (meth_tree hb hf hl)
  obtain ⟨a, c, fs, dx, m, rfl, rfl, e1, e2, fr, hn, h1⟩ := insU_of h1 ab1 rx
  obtain rfl : ov = Value.ref a := rv
  split at h1
  · rename_i f ef
    obtain ⟨fa, hC, hM, F⟩ := (ok c f ef).ex
    refine getmeth_ok I1 e2 hC hM ((fr.get).2 hn) ?_
    refine PySem.W.callWith_K (first := [.ref a]) (h₀ := X.base) I.ok.mod.kin hM.kp (thn (ha.run pos pins s1 σv H1 _ I1 ⟨σ, G1, _, rs.mono t1, ab1, h1, fun _ _ z => z⟩) fun us s2 ⟨vs, H2, I2, r, xs, G2, t2, ab2, r2, hz, h2⟩ => ⟨I2.kIn, ?_⟩) he hpl
    exact run_n (us := .ref a :: us) (vs := .ref a :: vs) F hr tk I2 (.cons rfl r) (.cons (.ref a) r2) ab2 (rs.mono (t1.trans t2)) hz h2 fun v H' z => q v H' (z.from (t1.trans t2))
  · exact h1.elim
theorem q_mth0 (ok : ∀ c f, tbl.lookup c = some f → MthN T X.prog X.w X.K X.mg X.base k c n (Γ.ar f) (Γ.fn f)) (hr : Room k X.A) (tk : Takes X (WU T X.K E)) (ho : QE T X o to)
    (hb : attributeBase o (T.nm n) X.env (eval o X.env) = eval o X.env) (hl : (apos.endLine == pos.line) = true) :
    QE T X (.Call (.Attribute o (T.nm n) apos) [] [] pos) (mthU Γ n tbl E to fun _ G Q => Q [] G) := by
  refine ⟨fun pins s σv H Qv I h => ?_⟩
  obtain ⟨σ, G, Q, rs, ab, h, q⟩ := h
  refine PySem.W.methodCall_KW (thn (ho.run pins s σv H _ I ⟨σ, G, _, rs, ab, h, fun _ _ z => z⟩) fun ov s1 ⟨xv, H1, I1, rv, x, G1, t1, ab1, rx, h1⟩ => ?_) (meth_tree hb rfl hl)
  obtain ⟨a, c, fs, dx, m, rfl, rfl, e1, e2, fr, hn, h1⟩ := insU_of h1 ab1 rx
  obtain rfl : ov = Value.ref a := rv
  split at h1
  · rename_i f ef
    obtain ⟨fa, hC, hM, F⟩ := (ok c f ef).ex
    refine getmeth_ok I1 e2 hC hM ((fr.get).2 hn) ?_
    exact PySem.W.callWith_K0 (first := [.ref a]) I1.kIn hM.kp (run_n (us := [.ref a]) (vs := [.ref a]) F hr tk I1 (.cons rfl .nil) (.cons (.ref a) .nil) ab1 (rs.mono t1) h1.1 h1.2 fun v H' z => q v H' (z.from t1))
  · exact h1.elim
structure NewN (T : Tb) (P : Program) (w : World) (K : PySem.W.Frag) (mg : Str → Option Value) (base : Heap) (k c : Nat) (ar : Nat) (sp : SpU) : Prop where
  ex : ∃ j fa, k = j + 1 ∧ Mk K (T.cA c) fa ∧ FnN T P w K mg base j fa ar sp
def newU (sp : SpU) (n c : Nat) (E : XS) (ts : TAU) : TEU := fun σ G Q => ts σ G fun us G1 => us.length + 1 = n ∧ ∀ p, G1 p = none → sp (.ref p :: us) (put G1 p (.ins c [])) (fun v G2 => v = .non ∧ Q (.ref p) G2) fun c fs G' => E c fs σ G'
theorem run_mk {sp : SpU} {c ar : Nat} {pins : List (Addr × Obj)} {σv : L2.St} {H : Hp} {s : Shared} {Qv : VK} {Q : UK} {us : List Value} {vs : List V} {xs : List U} {σ : SU} {G : Gp} (N : NewN T X.prog X.w X.K X.mg X.base k c ar sp) (hr : Room k X.A) (tk : Takes X (WU T X.K E))
    (I : Inv X pins σv H s) (r : Vals vs us) (rx : RUs T X.K H xs vs) (ab : Abs T X.K H G) (rs : RS T X.K H σ σv) (hl : xs.length + 1 = ar)
    (h : ∀ p, G p = none → sp (.ref p :: xs) (put G p (.ins c [])) (fun v G2 => v = .non ∧ Q (.ref p) G2) fun c fs G' => E c fs σ G') (q : ∀ v H', QV T X.K H Q v H' → Qv v H') : wpAny (model X.prog X.w) X.A (call (.ref (T.cA c)) us) (EP X pins σv Qv) X.xe s := by
  obtain ⟨j, fa, rfl, M, F⟩ := N.ex
  obtain ⟨fd, ps, kp, hb, hn, F⟩ := F.ex
  have n1 : H (s.heap.objs.size + 1) = none := I.hok.fresh (Nat.le_succ _)
  have n0 : H s.heap.objs.size = none := I.hok.fresh (Nat.le_refl _)
  have ne : s.heap.objs.size ≠ s.heap.objs.size + 1 := Nat.ne_of_lt (Nat.lt_succ_self _)
  have I2 := Inv.made (C := T.cA c) I
  have n1' : upd H s.heap.objs.size (.own (s.heap.objs.size + 1)) (s.heap.objs.size + 1) = none := by rw [upd_ne (Ne.symm ne)]; exact n1
  have tl : TL X.K H (upd (upd H s.heap.objs.size (.own (s.heap.objs.size + 1))) (s.heap.objs.size + 1) (.ins (T.cA c) s.heap.objs.size [])) := (TL.new n0).trans (TL.new n1')
  have ab2 : Abs T X.K (upd (upd H s.heap.objs.size (.own (s.heap.objs.size + 1))) (s.heap.objs.size + 1) (.ins (T.cA c) s.heap.objs.size [])) (put G (s.heap.objs.size + 1) (.ins c [])) :=
    (ab.newV n0).put (by rw [n1']; rfl) ⟨_, _, upd_same, .nil⟩
  have hq : lSp T X.K ar sp (V.ref (s.heap.objs.size + 1) :: vs) (upd (upd H s.heap.objs.size (.own (s.heap.objs.size + 1))) (s.heap.objs.size + 1) (.ins (T.cA c) s.heap.objs.size []))
      (fun v H2 => v = .non ∧ Qv (.ref (s.heap.objs.size + 1)) H2) (WE (WU T X.K E) σv) := by
    refine ⟨.ref (s.heap.objs.size + 1) :: xs, _, _, _, by rw [List.length_cons]; exact hl, .cons (.ref _) (RUs.mono tl _ _ rx), ab2, h _ (ab.free n1), fun v H' z => ?_, fun c d H' z => ?_⟩
    · obtain ⟨x, G', t', ab', rx', ex, hq'⟩ := z
      subst ex
      cases rx'
      exact ⟨rfl, q _ _ ⟨_, G', tl.trans t', ab', .ref _, hq'⟩⟩
    · obtain ⟨cc, fs, G', ec, t, ab', hd, he⟩ := z
      exact ⟨cc, fs, σ, G', ec, (rs.mono tl).mono t, ab', hd, he⟩
  have r2 : Vals (V.ref (s.heap.objs.size + 1) :: vs) (Value.ref (s.heap.objs.size + 1) :: us) := .cons rfl r
  have hl2 : (Value.ref (s.heap.objs.size + 1) :: us ++ []).length = ps.length := by
    have e := r2.length
    rw [F.len _ _ _ _ hq] at e
    rw [List.append_nil]
    exact e.symm
  have hbb := hb { s with heap := (s.heap.push PySem.W.emptyDict).push (PySem.W.instObj (T.cA c) s.heap.objs.size) } (Value.ref (s.heap.objs.size + 1) :: us) I2.kIn hl2
  rw [List.append_nil] at hbb
  refine wpAny_call (make_map (f := fa) I.kIn M.makes M.init (beq_iff_eq.mp M.fn) (codeAny_mono (F.run _ X.stack _ _ ⟨Value.ref (s.heap.objs.size + 1) :: us, []⟩ (Value.ref (s.heap.objs.size + 1) :: us) _ _ (WE (WU T X.K E) σv) (hr.make (T.cA c) us [])
    (I2.env0.make (T.cA c) us []) hbb r2 hq) fun r s' hq' => ?_))
  cases r with
  | error e => exact passAt tk σv pins _ _ e s' I2 hq'
  | ok fl =>
    cases fl with
    | ret u =>
      obtain ⟨v, H', I3, rv, ev, q3⟩ := I2.after hq'
      subst ev
      exact ⟨rv, ⟨V.ref (s.heap.objs.size + 1), H', I3, rfl, q3⟩⟩
    | next => exact False.elim hq'
    | brk => exact False.elim hq'
    | cont => exact False.elim hq'
theorem q_new {x : Str} {sp : SpU} {c ar : Nat} (N : NewN T X.prog X.w X.K X.mg X.base k c ar sp) (hr : Room k X.A) (tk : Takes X (WU T X.K E)) (hg : Gl X x) (hm : X.mg x = some (.ref (T.cA c))) (hdb : (x == ("__debug__" : Str)) = false) (ha : QA T X (e :: es) ts)
    (he : starEach (e :: es) X.env = (false, eval e X.env) :: starEach es X.env) (hpl : (backTo pos (starEach es X.env)).any (·.1) = false) : QE T X (.Call (.Name x p) (e :: es) [] pos) (newU sp ar c E ts) := by
  refine ⟨fun pins s σv H Qv I h => ?_⟩
  obtain ⟨σ, G, Q, rs, ab, h, q⟩ := h
  have kp : PySem.W.keepIn X.K (.ref (T.cA c)) = true := by obtain ⟨_, _, _, M, _⟩ := N.ex; exact M.kp
  refine wpAny_Call_Name_kw (ld_glob I hg hm ?_ hdb)
  refine PySem.W.callWith_K (h₀ := X.base) I.ok.mod.kin kp (thn (ha.run pos pins s σv H _ I ⟨σ, G, _, rs, ab, h, fun _ _ z => z⟩) fun us s1 ⟨vs, H1, I1, r, xs, G1, t1, ab1, r1, hl, h1⟩ => ⟨I1.kIn, ?_⟩) he hpl
  exact run_mk N hr tk I1 r r1 ab1 (rs.mono t1) hl h1 fun v H' z => q v H' (z.from t1)
theorem q_new0 {x : Str} {sp : SpU} {c ar : Nat} (N : NewN T X.prog X.w X.K X.mg X.base k c ar sp) (hr : Room k X.A) (tk : Takes X (WU T X.K E)) (hg : Gl X x) (hm : X.mg x = some (.ref (T.cA c))) (hdb : (x == ("__debug__" : Str)) = false) : QE T X (.Call (.Name x p) [] [] pos) (newU sp ar c E fun _ G Q => Q [] G) := by
  refine ⟨fun pins s σv H Qv I h => ?_⟩
  obtain ⟨σ, G, Q, rs, ab, ⟨hl, h⟩, q⟩ := h
  have kp : PySem.W.keepIn X.K (.ref (T.cA c)) = true := by obtain ⟨_, _, _, M, _⟩ := N.ex; exact M.kp
  refine wpAny_Call_Name_kw (ld_glob I hg hm ?_ hdb)
  exact PySem.W.callWith_K0 I.kIn kp (run_mk (us := []) N hr tk I .nil .nil ab rs hl h q)
end
/-! ### targets -/
section
variable {T : Tb} {X : Cx}
mutual
def gV (K : PySem.W.Frag) : Tg → TG
  | .name i => gName i
  | .tup ts => gTup K (lenT ts) (gsV K ts)
def gsV (K : PySem.W.Frag) : List Tg → TGs
  | [] => gNil
  | t :: ts => gCons (gV K t) (gsV K ts)
def lenT : List Tg → Nat
  | [] => 0
  | _ :: ts => lenT ts + 1
end
mutual
def slotsT : Tg → List Nat
  | .name i => [i]
  | .tup ts => slotsTs ts
def slotsTs : List Tg → List Nat
  | [] => []
  | t :: ts => slotsT t ++ slotsTs ts
end
mutual
theorem gU_ex : ∀ (t : Tg) (x : U) (σ : SU) (G : Gp) (Q : SU → Gp → Prop), gU t x σ G Q → ∃ σ', Q σ' G
  | .name i, x, σ, G, Q, h => ⟨_, h⟩
  | .tup ts, x, σ, G, Q, h => by
    unfold gU at h
    split at h
    · exact (gsU_ex ts _ σ G Q h).2
    · exact h.elim
theorem gsU_ex : ∀ (ts : List Tg) (xs : List U) (σ : SU) (G : Gp) (Q : SU → Gp → Prop), gsU ts xs σ G Q → xs.length = lenT ts ∧ ∃ σ', Q σ' G
  | [], [], σ, G, Q, h => ⟨rfl, σ, h⟩
  | [], _ :: _, _, _, _, h => by simp only [gsU] at h
  | _ :: _, [], _, _, _, h => by simp only [gsU] at h
  | t :: ts, x :: xs, σ, G, Q, h => by
    simp only [gsU] at h
    obtain ⟨σ', h'⟩ := gU_ex t x σ G _ h
    obtain ⟨hl, h''⟩ := gsU_ex ts xs σ' G Q h'
    exact ⟨by rw [List.length_cons, hl, lenT], h''⟩
end
theorem wipe_out {σ : L2.St} {i : Nat} {v : Option V} : ∀ {vs : List Nat}, i ∉ vs → wipe (σ.set i v) vs = (wipe σ vs).set i v
  | [], _ => rfl
  | w :: vs, h => by
    unfold wipe
    rw [List.mem_cons, not_or] at h
    rw [wipe_out h.2, List.set_comm _ _ h.1]
theorem wipe_set {σ : L2.St} {i : Nat} {v : Option V} : ∀ {vs : List Nat}, i ∈ vs → wipe (σ.set i v) vs = wipe σ vs
  | [], h => by cases h
  | w :: vs, h => by
    by_cases hm : i ∈ vs
    · unfold wipe
      rw [wipe_set hm]
    · rcases List.mem_cons.mp h with e | h
      · subst e
        unfold wipe
        rw [wipe_out hm, List.set_set]
      · exact absurd h hm
mutual
theorem gU_gV {K : PySem.W.Frag} {H : Hp} : ∀ (t : Tg) (x : U) (xv : V) (σ : SU) (σv : L2.St) (G : Gp) (Q : SU → Gp → Prop) (Qv : L2.St → Hp → Prop), RU T K H x xv → RS T K H σ σv → gU t x σ G Q →
    (∀ σv' σ', RS T K H σ' σv' → Q σ' G → (∀ vs, (∀ i ∈ slotsT t, i ∈ vs) → wipe σv' vs = wipe σv vs) → Qv σv' H) → gV K t xv σv H Qv
  | .name i, x, xv, σ, σv, G, Q, Qv, rx, rs, h, q => q _ _ (rs.set i rx) h fun vs hv => wipe_set (hv i (by unfold slotsT; exact List.mem_singleton.mpr rfl))
  | .tup ts, x, xv, σ, σv, G, Q, Qv, rx, rs, h, q => by
    unfold gU at h
    split at h
    · rename_i xs
      cases rx with
      | @tup a ws _ s r =>
        have hl := (gsU_ex ts xs σ G Q h).1
        unfold gV
        refine ⟨a, ws, rfl, s.sq, by rw [← r.length]; exact hl, ?_⟩
        exact gsU_gsV ts xs ws σ σv G Q Qv r rs h fun σv' σ' r' h' hw => q σv' σ' r' h' fun vs hv => hw vs (by unfold slotsT at hv; exact hv)
    · exact h.elim
theorem gsU_gsV {K : PySem.W.Frag} {H : Hp} : ∀ (ts : List Tg) (xs : List U) (ws : List V) (σ : SU) (σv : L2.St) (G : Gp) (Q : SU → Gp → Prop) (Qv : L2.St → Hp → Prop), RUs T K H xs ws → RS T K H σ σv → gsU ts xs σ G Q →
    (∀ σv' σ', RS T K H σ' σv' → Q σ' G → (∀ vs, (∀ i ∈ slotsTs ts, i ∈ vs) → wipe σv' vs = wipe σv vs) → Qv σv' H) → gsV K ts ws σv H Qv
  | [], [], ws, σ, σv, G, Q, Qv, r, rs, h, q => by
    cases r
    unfold gsV
    exact ⟨rfl, q σv σ rs h fun vs _ => rfl⟩
  | [], _ :: _, _, _, _, _, _, _, _, _, h, _ => by simp only [gsU] at h
  | _ :: _, [], _, _, _, _, _, _, _, _, h, _ => by simp only [gsU] at h
  | t :: ts, x :: xs, ws, σ, σv, G, Q, Qv, r, rs, h, q => by
    simp only [gsU] at h
    cases r with
    | cons a b =>
      unfold gsV
      refine ⟨_, _, rfl, gU_gV t x _ σ σv G _ _ a rs h fun σv' σ' r' h' hw => ?_⟩
      refine gsU_gsV ts xs _ σ' σv' G Q Qv b r' h' fun σv2 σ2 r2 h2 hw2 => q σv2 σ2 r2 h2 fun vs hv => ?_
      unfold slotsTs at hv
      rw [hw2 vs fun i hi => hv i (List.mem_append_right _ hi), hw vs fun i hi => hv i (List.mem_append_left _ hi)]
end
end
end Y

namespace Y
open PySem PySem.Spec PyProof.Rows L2

/-! ### what is walked -/
structure WK (T : Tb) (K : PySem.W.Frag) (H0 : Hp) (J : It) (src : Gp → Prop) (items : List U) : Prop where
  go : ∀ i H G, TL K H0 H → Abs T K H G → src G → i < items.length → J.go i H
  yld : ∀ i H G x H', TL K H0 H → Abs T K H G → src G → J.yld i H x H' → TL K H H' ∧ Abs T K H' G ∧ ∀ u, items[i]? = some u → RU T K H' u x
  stop : ∀ H G, TL K H0 H → Abs T K H G → src G → J.stop items.length H
def lI (T : Tb) (K : PySem.W.Frag) (wi : TIU) : TI := fun σv H R => ∃ σ G Ru, RS T K H σ σv ∧ Abs T K H G ∧ wi σ G Ru ∧ ∀ J H' src items G', TL K H H' → Abs T K H' G' → WK T K H' J src items → Ru src items G' → R J H'
section
variable {T : Tb} {X : Cx} {tg e a b : Expr} {te ta tb : TEU}
theorem TQ.inj {K : PySem.W.Frag} {H : Hp} {p : Addr} {xs : List V} {J : List V} : TQ K H p xs → SqT K H p xs := TQ.sq
theorem wk_tup {K : PySem.W.Frag} {H0 : Hp} {p : Addr} {vs : List V} {us : List U} (s : TQ K H0 p vs) (r : RUs T K H0 us vs) : WK T K H0 (Itt K p) (fun _ => True) us where
  go := fun i H G t ab _ hi => by
    have hv : i < vs.length := by rw [← r.length]; exact hi
    exact ⟨vs, vs[i], (t.tq _ _ s).sq, List.getElem?_eq_getElem hv⟩
  yld := fun i H G x H' t ab _ y => by
    obtain ⟨e, y⟩ := y
    subst e
    refine ⟨TL.refl _, ab, fun u hu => ?_⟩
    obtain ⟨v, hv, rv⟩ := r.get hu
    have e := y vs (t.tq _ _ s).sq
    rw [hv] at e
    cases e
    exact RU.mono t _ _ rv
  stop := fun H G t ab _ => ⟨vs, (t.tq _ _ s).sq, by rw [r.length]; exact Nat.le_refl _⟩
theorem wk_rl {K : PySem.W.Frag} {H0 : Hp} {p : Addr} {vs : List V} {us : List U} (s : LQ K H0 p vs) (r : RUs T K H0 us vs) : WK T K H0 (Itl K p) (fun _ => True) us where
  go := fun i H G t ab _ hi => by
    have hv : i < vs.length := by rw [← r.length]; exact hi
    exact ⟨vs, vs[i], (t.lq _ _ s).sq, List.getElem?_eq_getElem hv⟩
  yld := fun i H G x H' t ab _ y => by
    obtain ⟨e, y⟩ := y
    subst e
    refine ⟨TL.refl _, ab, fun u hu => ?_⟩
    obtain ⟨v, hv, rv⟩ := r.get hu
    have e := y vs (t.lq _ _ s).sq
    rw [hv] at e
    cases e
    exact RU.mono t _ _ rv
  stop := fun H G t ab _ => ⟨vs, (t.lq _ _ s).sq, by rw [r.length]; exact Nat.le_refl _⟩
theorem wk_lst {K : PySem.W.Frag} {H0 : Hp} {p : Addr} {us : List U} : WK T K H0 (Itl K p) (fun G => lsG (G p) = some us) us where
  go := fun i H G t ab e hi => by
    obtain ⟨vs, h, r⟩ := ab.list e
    have hv : i < vs.length := by rw [← r.length]; exact hi
    exact ⟨vs, vs[i], .inl h, List.getElem?_eq_getElem hv⟩
  yld := fun i H G x H' t ab e y => by
    obtain ⟨e1, y⟩ := y
    subst e1
    obtain ⟨vs, h, r⟩ := ab.list e
    refine ⟨TL.refl _, ab, fun u hu => ?_⟩
    obtain ⟨v, hv, rv⟩ := r.get hu
    have e := y vs (.inl h)
    rw [hv] at e
    cases e
    exact rv
  stop := fun H G t ab e => by
    obtain ⟨vs, h, r⟩ := ab.list e
    exact ⟨vs, .inl h, by rw [r.length]; exact Nat.le_refl _⟩
theorem wk_str {K : PySem.W.Frag} {H0 : Hp} {z : Str} : WK T K H0 (Its z) (fun _ => True) (z.cps.toList.map fun c => .str ⟨#[c]⟩) where
  go := fun i H G t ab e hi => by
    show i < z.cps.size
    rw [List.length_map, Array.length_toList] at hi
    exact hi
  yld := fun i H G x H' t ab e y => by
    obtain ⟨e1, c, hc, ex⟩ := y
    subst e1 ex
    refine ⟨TL.refl _, ab, fun u hu => ?_⟩
    rw [List.getElem?_map, Array.getElem?_toList, hc] at hu
    cases hu
    exact .str _
  stop := fun H G t ab e => by
    show z.cps.size ≤ _
    rw [List.length_map, Array.length_toList]
    exact Nat.le_refl _
theorem rngU_get {lo : Int} {n i : Nat} : (rngU lo n)[i]? = if i < n then some (.int (lo + (i : Int))) else none := by
  unfold rngU
  rw [List.getElem?_map]
  by_cases h : i < n
  · rw [if_pos h, List.getElem?_eq_getElem (by simpa using h)]
    simp
  · rw [if_neg h, List.getElem?_eq_none (by simpa using h)]
    rfl
theorem rngU_len {lo : Int} {n : Nat} : (rngU lo n).length = n := by unfold rngU; simp
theorem wk_rng {K : PySem.W.Frag} {H0 : Hp} {lo : Int} {n : Nat} : WK T K H0 (Itr lo n) (fun _ => True) (rngU lo n) where
  go := fun i H G t ab e hi => by
    show i < n
    rw [rngU_len] at hi
    exact hi
  yld := fun i H G x H' t ab e y => by
    obtain ⟨e1, ex⟩ := y
    subst e1 ex
    refine ⟨TL.refl _, ab, fun u hu => ?_⟩
    rw [rngU_get] at hu
    split at hu
    · cases hu; exact .int _
    · cases hu
  stop := fun H G t ab e => by
    show n ≤ _
    rw [rngU_len]
    exact Nat.le_refl _
/-- enumerate -/
theorem enU_get : ∀ (xs : List U) (j i : Nat), (enU j xs)[i]? = (xs[i]?).map fun x => U.tup [.int ((j + i : Nat) : Int), x]
  | [], _, _ => by simp [enU]
  | x :: xs, j, 0 => by simp [enU]
  | x :: xs, j, i + 1 => by
    rw [enU, List.getElem?_cons_succ, List.getElem?_cons_succ, enU_get xs (j + 1) i, Nat.add_assoc, Nat.add_comm 1 i]
theorem enU_len : ∀ (xs : List U) (j : Nat), (enU j xs).length = xs.length
  | [], _ => rfl
  | x :: xs, j => by rw [enU, List.length_cons, List.length_cons, enU_len xs]
theorem zpU_get : ∀ (xs ys : List U) (i : Nat), (zpU xs ys)[i]? = match xs[i]?, ys[i]? with
    | some x, some y => some (U.tup [x, y])
    | _, _ => none
  | [], _, _ => by simp [zpU]
  | x :: xs, [], i => by
    simp only [zpU, List.getElem?_nil]
    split <;> first
      | rfl
      | (rename_i h; cases h)
  | x :: xs, y :: ys, 0 => by simp [zpU]
  | x :: xs, y :: ys, i + 1 => by
    rw [zpU, List.getElem?_cons_succ, List.getElem?_cons_succ, List.getElem?_cons_succ, zpU_get xs ys i]
theorem zpU_len : ∀ (xs ys : List U), (zpU xs ys).length = min xs.length ys.length
  | [], _ => by simp [zpU]
  | x :: xs, [] => by simp [zpU]
  | x :: xs, y :: ys => by rw [zpU, List.length_cons, List.length_cons, List.length_cons, zpU_len xs ys]; omega
/-- a source that lasts: a list -/
theorem src_ls {K : PySem.W.Frag} {H0 H : Hp} {G0 G : Gp} {x : U} {xs : List U} {p : Addr} (rx : RU T K H0 x (.ref p)) (t : TL K H0 H) (ab : Abs T K H G) (e : lsU G x = some xs) : ∃ vs, SqL K H p vs ∧ RUs T K H xs vs := by
  obtain ⟨p', vs, e', s, r⟩ := ls_rd ab e (RU.mono t _ _ rx)
  cases e'
  exact ⟨vs, s, r⟩
theorem wk_enm {K : PySem.W.Frag} {H0 : Hp} {x : U} {p : Addr} {xs : List U} (rx : RU T K H0 x (.ref p)) (hj : ∀ H vs ws, SqL K H p vs → SqL K H p ws → True) : WK T K H0 (Ite K p) (fun G => lsU G x = some xs) (enU 0 xs) where
  go := fun i H G t ab e hi => by
    obtain ⟨vs, s, r⟩ := src_ls (G0 := G) rx t ab e
    rw [enU_len] at hi
    have hv : i < vs.length := by rw [← r.length]; exact hi
    exact ⟨vs, vs[i], s, List.getElem?_eq_getElem hv⟩
  yld := fun i H G v H' t ab e y => by
    obtain ⟨T', y', rfl, nT, rfl, f⟩ := y
    obtain ⟨vs, s, r⟩ := src_ls (G0 := G) rx t ab e
    refine ⟨TL.new nT, ab.newV nT, fun u hu => ?_⟩
    rw [enU_get, Option.map_eq_some_iff] at hu
    obtain ⟨z, hz, rfl⟩ := hu
    obtain ⟨w, hw, rw'⟩ := r.get hz
    have e2 := f vs s
    rw [hw] at e2
    cases e2
    rw [Nat.zero_add]
    exact .tup (.inl upd_same) (.cons (.int _) (.cons (RU.mono (TL.new nT) _ _ rw') .nil))
  stop := fun H G t ab e => by
    obtain ⟨vs, s, r⟩ := src_ls (G0 := G) rx t ab e
    exact ⟨vs, s, by rw [enU_len, r.length]; exact Nat.le_refl _⟩
theorem wk_zp {K : PySem.W.Frag} {H0 : Hp} {x y : U} {p q : Addr} {xs ys : List U} (rx : RU T K H0 x (.ref p)) (ry : RU T K H0 y (.ref q)) : WK T K H0 (Itz K p q) (fun G => lsU G x = some xs ∧ lsU G y = some ys) (zpU xs ys) where
  go := fun i H G t ab e hi => by
    obtain ⟨vs, s, r⟩ := src_ls (G0 := G) rx t ab e.1
    obtain ⟨ws, s2, r2⟩ := src_ls (G0 := G) ry t ab e.2
    rw [zpU_len] at hi
    have hv : i < vs.length := by rw [← r.length]; omega
    have hw : i < ws.length := by rw [← r2.length]; omega
    exact ⟨vs, ws, vs[i], ws[i], s, s2, List.getElem?_eq_getElem hv, List.getElem?_eq_getElem hw⟩
  yld := fun i H G v H' t ab e y => by
    obtain ⟨T', y1, y2, rfl, nT, rfl, f, f2⟩ := y
    obtain ⟨vs, s, r⟩ := src_ls (G0 := G) rx t ab e.1
    obtain ⟨ws, s2, r2⟩ := src_ls (G0 := G) ry t ab e.2
    refine ⟨TL.new nT, ab.newV nT, fun u hu => ?_⟩
    rw [zpU_get] at hu
    split at hu
    · rename_i a b ha hb
      cases hu
      obtain ⟨w1, hw1, rw1⟩ := r.get ha
      obtain ⟨w2, hw2, rw2⟩ := r2.get hb
      have e1 := f vs s
      have e2 := f2 ws s2
      rw [hw1] at e1
      rw [hw2] at e2
      cases e1
      cases e2
      exact .tup (.inl upd_same) (.cons (RU.mono (TL.new nT) _ _ rw1) (.cons (RU.mono (TL.new nT) _ _ rw2) .nil))
    · cases hu
  stop := fun H G t ab e => by
    obtain ⟨vs, s, r⟩ := src_ls (G0 := G) rx t ab e.1
    obtain ⟨ws, s2, r2⟩ := src_ls (G0 := G) ry t ab e.2
    refine ⟨vs, ws, s, s2, ?_⟩
    rw [zpU_len, ← r.length, ← r2.length]
    omega
theorem wk_zpT {K : PySem.W.Frag} {H0 : Hp} {p q : Addr} {xs ys : List U} {vs ws : List V} (s : TQ K H0 p vs) (r : RUs T K H0 xs vs) (s2 : TQ K H0 q ws) (r2 : RUs T K H0 ys ws) : WK T K H0 (RZ.ItzT K p q) (fun _ => True) (zpU xs ys) where
  go := fun i H G t ab e hi => by
    rw [zpU_len] at hi
    have hv : i < vs.length := by rw [← r.length]; omega
    have hw : i < ws.length := by rw [← r2.length]; omega
    exact ⟨vs, ws, vs[i], ws[i], (t.tq _ _ s).sq, (t.tq _ _ s2).sq, List.getElem?_eq_getElem hv, List.getElem?_eq_getElem hw⟩
  yld := fun i H G v H' t ab e y => by
    obtain ⟨T', y1, y2, rfl, nT, rfl, f, f2⟩ := y
    refine ⟨TL.new nT, ab.newV nT, fun u hu => ?_⟩
    rw [zpU_get] at hu
    split at hu
    · rename_i a b ha hb
      cases hu
      obtain ⟨w1, hw1, rw1⟩ := r.get ha
      obtain ⟨w2, hw2, rw2⟩ := r2.get hb
      have e1 := f vs (t.tq _ _ s).sq
      have e2 := f2 ws (t.tq _ _ s2).sq
      rw [hw1] at e1
      rw [hw2] at e2
      cases e1
      cases e2
      exact .tup (.inl upd_same) (.cons (RU.mono (t.trans (TL.new nT)) _ _ rw1) (.cons (RU.mono (t.trans (TL.new nT)) _ _ rw2) .nil))
    · cases hu
  stop := fun H G t ab e => by
    refine ⟨vs, ws, (t.tq _ _ s).sq, (t.tq _ _ s2).sq, ?_⟩
    rw [zpU_len, ← r.length, ← r2.length]
    omega
/-- a list, a tuple, a text, walked -/
theorem qi_seq (he : QE T X e te) : PI X tg e (lI T X.K fun σ G R => te σ G fun x G1 => seqU x G1 R) := by
  refine ⟨fun pins s σv H R I h => ?_⟩
  obtain ⟨σ, G, Ru, rs, ab, h, q⟩ := h
  refine thn (he.run pins s σv H _ I ⟨σ, G, _, rs, ab, h, fun _ _ z => z⟩) fun v s1 ⟨xv, H1, I1, r1, x, G1, t1, ab1, rx, h1⟩ => ?_
  replace h1 : seqU x G1 Ru := h1
  unfold seqU at h1
  split at h1
  · cases rx with
    | @tup p vs _ st rr =>
      cases r1
      obtain ⟨its, rv, pl, hz⟩ := I1.tuple st.sq
      exact wpAny_pyIter_tuple (show s1.heap.IsTuple p its.toArray from pl) (pi_one (tk := s1.toks) I1 _ (turn_tuple p _) ⟨_, Heap.get?_push_size _ rfl, rfl, rfl⟩ (q _ H1 _ _ G1 t1 ab1 (wk_tup st rr) h1))
  · cases rx with
    | @rl p vs _ st rr =>
      cases r1
      obtain ⟨its, rv, pl, hz⟩ := I1.list st.sq
      exact wpAny_pyIter_list pl.isList (pi_one (tk := s1.toks) I1 _ (turn_list p _) ⟨_, Heap.get?_push_size _ rfl, rfl, rfl⟩ (q _ H1 _ _ G1 t1 ab1 (wk_rl st rr) h1))
  · rename_i z
    cases rx
    obtain ⟨t, rfl⟩ := r1
    have q' := q _ H1 _ _ G1 t1 ab1 wk_str h1
    cases ha : z.cps.all (· < 128)
    · exact wpAny_pyIter_wide ha (pi_one (tk := s1.toks) I1 _ (turn_str _ z t "str_iterator" (.inr rfl)) ⟨_, Heap.get?_push_size _ rfl, rfl, rfl⟩ q')
    · exact wpAny_pyIter_ascii ha (pi_one (tk := s1.toks) I1 _ (turn_str _ z t "str_ascii_iterator" (.inl rfl)) ⟨_, Heap.get?_push_size _ rfl, rfl, rfl⟩ q')
  · rename_i p
    cases rx
    cases r1
    split at h1
    · rename_i xs e
      obtain ⟨vs, hr, rr⟩ := ab1.list e
      obtain ⟨its, rv, pl, hz⟩ := I1.list (.inl hr)
      exact wpAny_pyIter_list pl.isList (pi_one (tk := s1.toks) I1 _ (turn_list p _) ⟨_, Heap.get?_push_size _ rfl, rfl, rfl⟩ (q _ H1 _ _ G1 t1 ab1 wk_lst h1))
    · exact h1.elim
  · exact h1.elim
theorem PIi {X : Cx} {tg e : Expr} {t t' : TI} (h : PI X tg e t') (i : ∀ σ H Q, t σ H Q → t' σ H Q) : PI X tg e t := ⟨fun pins s σ H Q I q => h.run pins s σ H Q I (i σ H Q q)⟩
theorem qi_enm {elts : List Expr} {kk : Nat} {tpos p pos : Pos} (hg : Gl X "enumerate") (hm : X.mg "enumerate" = none) (ha : QE T X a ta) (hs : starEach [a] X.env = [(false, eval a X.env)]) :
    PI X (.Tuple elts kk tpos) (.Call (.Name "enumerate" p) [a] [] pos) (lI T X.K fun σ G R => ta σ G fun x G1 => enmU x G1 R) :=
  PIi (pi_enum hg hm (pa_cons ha pa_nil hs) hs) fun σv H R h => by
    obtain ⟨σ, G, Ru, rs, ab, h, q⟩ := h
    refine ⟨σ, G, _, rs, ab, h, fun xv H1 ⟨x, G1, t1, ab1, rx, h1⟩ => ?_⟩
    replace h1 : enmU x G1 Ru := h1
    unfold enmU at h1
    split at h1
    · rename_i xs e
      obtain ⟨p, vs, rfl, s, r⟩ := ls_rd ab1 e rx
      exact ⟨p, vs, rfl, s, q _ H1 _ _ G1 t1 ab1 (wk_enm rx fun _ _ _ _ _ => trivial) h1⟩
    · exact h1.elim
theorem qi_zp {elts : List Expr} {kk : Nat} {tpos p pos : Pos} (hg : Gl X "zip") (hm : X.mg "zip" = none) (ha : QE T X a ta) (hb : QE T X b tb) (hs : starEach [a, b] X.env = (false, eval a X.env) :: starEach [b] X.env) (hs2 : starEach [b] X.env = [(false, eval b X.env)]) :
    PI X (.Tuple elts kk tpos) (.Call (.Name "zip" p) [a, b] [] pos) (lI T X.K fun σ G R => ta σ G fun x G1 => tb σ G1 fun y G2 => zpsU x y G2 R) :=
  PIi (RZ.pi_zipA hg hm (pa_cons ha (pa_cons hb pa_nil hs2) hs) hs (by rw [hs2]; rfl)) fun σv H R h => by
    obtain ⟨σ, G, Ru, rs, ab, h, q⟩ := h
    refine ⟨σ, G, _, rs, ab, h, fun xv H1 ⟨x, G1, t1, ab1, rx, h1⟩ => ⟨σ, G1, _, rs.mono t1, ab1, h1, fun yv H2 ⟨y, G2, t2, ab2, ry, h2⟩ => ?_⟩⟩
    replace h2 : zpsU x y G2 Ru := h2
    have rx2 := RU.mono t2 _ _ rx
    unfold zpsU at h2
    split at h2
    · cases rx2 with
      | tup s r =>
        cases ry with
        | tup s2 r2 => exact ⟨_, _, _, _, rfl, .inr ⟨s.sq, s2.sq, q _ H2 _ _ G2 (t1.trans t2) ab2 (wk_zpT s r s2 r2) h2⟩⟩
    · split at h2
      · rename_i xs ys e1 e2
        obtain ⟨p, vs, rfl, s, r⟩ := ls_rd ab2 e1 rx2
        obtain ⟨p2, vs2, rfl, s2, r2⟩ := ls_rd ab2 e2 ry
        exact ⟨p, p2, _, _, rfl, .inl ⟨s, s2, q _ H2 _ _ G2 (t1.trans t2) ab2 (wk_zp rx2 ry) h2⟩⟩
      · exact h2.elim
theorem qi_rng1 {p pos : Pos} (hg : Gl X "range") (hm : X.mg "range" = none) (ha : QE T X a ta) (hs : starEach [a] X.env = [(false, eval a X.env)]) :
    PI X tg (.Call (.Name "range" p) [a] [] pos) (lI T X.K fun σ G R => ta σ G fun x G1 => partU x fun j => -(2 ^ 62) ≤ j ∧ j < 2 ^ 62 ∧ R (fun _ => True) (rngU 0 j.toNat) G1) :=
  PIi (pi_range1 hg hm (pa_cons ha pa_nil hs) hs) fun σv H R h => by
    obtain ⟨σ, G, Ru, rs, ab, h, q⟩ := h
    refine ⟨σ, G, _, rs, ab, h, fun xv H1 ⟨x, G1, t1, ab1, rx, h1⟩ => ?_⟩
    obtain ⟨i, e, _, h1⟩ := partU_of h1 rx
    subst e
    exact ⟨i, rfl, h1.1, h1.2.1, q _ H1 _ _ G1 t1 ab1 wk_rng h1.2.2⟩
theorem qi_rng2 {p pos : Pos} (hg : Gl X "range") (hm : X.mg "range" = none) (ha : QE T X a ta) (hb : QE T X b tb) (hs : starEach [a, b] X.env = [(false, eval a X.env), (false, eval b X.env)]) (hs2 : starEach [b] X.env = [(false, eval b X.env)]) :
    PI X tg (.Call (.Name "range" p) [a, b] [] pos) (lI T X.K fun σ G R => ta σ G fun x G1 => tb σ G1 fun y G2 => partU x fun i => partU y fun j => -(2 ^ 62) ≤ i ∧ i < 2 ^ 62 ∧ -(2 ^ 62) ≤ j ∧ j < 2 ^ 62 ∧ R (fun _ => True) (rngU i (j - i).toNat) G2) :=
  PIi (pi_range2 hg hm (pa_cons ha (pa_cons hb pa_nil hs2) (by rw [hs, hs2])) hs hs2) fun σv H R h => by
    obtain ⟨σ, G, Ru, rs, ab, h, q⟩ := h
    refine ⟨σ, G, _, rs, ab, h, fun xv H1 ⟨x, G1, t1, ab1, rx, h1⟩ => ⟨σ, G1, _, rs.mono t1, ab1, h1, fun yv H2 ⟨y, G2, t2, ab2, ry, h2⟩ => ?_⟩⟩
    obtain ⟨i, e, _, h2⟩ := partU_of h2 rx
    subst e
    obtain ⟨j, e, _, h2⟩ := partU_of h2 ry
    subst e
    exact ⟨i, j, rfl, ⟨h2.1, h2.2.1, h2.2.2.1, h2.2.2.2.1⟩, q _ H2 _ _ G2 (t1.trans t2) ab2 wk_rng h2.2.2.2.2⟩
end

/-! ### loops -/
section
variable {T : Tb} {X : Cx} {tg iter c : Expr} {body : List Stmt} {pos : Pos} {wi : TIU} {tb : TSU} {t : Tg}
theorem QN.of {K : PySem.W.Frag} {H H1 : Hp} {G : Gp} {σ : SU} {σv : L2.St} {Q : SU → Gp → Prop} (t : TL K H H1) (ab : Abs T K H1 G) (rs : RS T K H1 σ σv) (q : Q σ G) : QN T K H Q σv H1 := ⟨σ, G, t, ab, rs, q⟩
theorem for_below (σv : L2.St) (H : Hp) (D : Ends) (h : lS T X.K (fun D σ G => wi σ G fun src items G1 => loopU (gU t) tb src items D σ G1) D σv H) : tFor (lI T X.K wi) (gV X.K t) (lS T X.K tb) D σv H := by
  obtain ⟨σ, G, DU, rs, ab, h, hnx, hrt, hbk, hct⟩ := h
  refine ⟨σ, G, _, rs, ab, h, fun J H0 src items G0 t0 ab0 wk h0 => ?_⟩
  refine ⟨fun i m σv H => ∃ σ G, m = items.length - i ∧ i ≤ items.length ∧ TL X.K H0 H ∧ RS T X.K H σ σv ∧ Abs T X.K H G ∧ loopU (gU t) tb src (items.drop i) DU σ G,
    ⟨items.length, σ, G0, by omega, by omega, TL.refl _, rs.mono t0, ab0, h0⟩, ?_⟩
  rintro i m σv1 H1 ⟨σ1, G1, rfl, hi, t1, rs1, ab1, h1⟩
  by_cases hlt : i < items.length
  · have e : items.drop i = items[i] :: items.drop (i + 1) := List.drop_eq_getElem_cons hlt
    rw [e] at h1
    obtain ⟨hs, h1⟩ := h1
    refine .inr ⟨wk.go i H1 G1 t1 ab1 hs hlt, fun σv' H' => ∃ σ' G', TL X.K H0 H' ∧ RS T X.K H' σ' σv' ∧ Abs T X.K H' G' ∧ loopU (gU t) tb src (items.drop (i + 1)) DU σ' G', ?_, fun xv H2 y => ?_⟩
    · rintro σv' H' ⟨σ', G', t', rs', ab', h'⟩
      exact ⟨items.length - (i + 1), by omega, σ', G', rfl, hlt, t', rs', ab', h'⟩
    · obtain ⟨t2, ab2, rx⟩ := wk.yld i H1 G1 xv H2 t1 ab1 hs y
      have rx := rx items[i] (List.getElem?_eq_getElem hlt)
      refine gU_gV t items[i] xv σ1 σv1 G1 _ _ rx (rs1.mono t2) h1 fun σv2 σ2 rs2 h2 _ => ?_
      refine ⟨σ2, G1, _, rs2, ab2, h2, fun σ' H' z => ?_, fun v H' z => ?_, fun σ' H' z => ?_, fun σ' H' z => ?_⟩
      · obtain ⟨σ3, G3, t3, ab3, rs3, h3⟩ := z
        exact ⟨σ3, G3, (t1.trans t2).trans t3, rs3, ab3, h3⟩
      · exact hrt _ _ (z.from (((t0.trans t1).trans t2)))
      · exact hnx _ _ (z.from (((t0.trans t1).trans t2)))
      · obtain ⟨σ3, G3, t3, ab3, rs3, h3⟩ := z
        exact ⟨σ3, G3, (t1.trans t2).trans t3, rs3, ab3, h3⟩
  · have ei : i = items.length := by omega
    subst ei
    rw [List.drop_length] at h1
    exact .inl ⟨wk.stop H1 G1 t1 ab1 h1.1, hnx _ _ ⟨σ1, G1, t0.trans t1, ab1, rs1, h1.2⟩⟩
theorem q_for (hp : PassesOwn (model X.prog X.w) X.A X.env X.xe) (hc : X.calm = true) (hi : PI X tg iter (lI T X.K wi)) (hg : PG X tg (gV X.K t)) (hb : QSs T X body tb) (hs : ∀ x, foldedSetIterable iter X.env x = pure x) :
    QS T X (.For tg iter body [] pos) (fun D σ G => wi σ G fun src items G1 => loopU (gU t) tb src items D σ G1) :=
  PSi (ps_for hp hc hi hg hb hs) fun D σv H h => for_below σv H D h
theorem q_while {tc : TEU} (hp : PassesOwn (model X.prog X.w) X.A X.env X.xe) (hc : QT T X c (tstU tc)) (hb : QSs T X body tb) : QS T X (.While c body [] pos) (fun D σ G => ∃ n, whU (tstU tc) tb n D σ G) :=
  PSi (ps_while hp hc hb) fun D σv H h => by
    obtain ⟨σ, G, DU, rs, ab, ⟨n, h⟩, hnx, hrt, hbk, hct⟩ := h
    refine ⟨fun m σv' H' => ∃ σ' G', TL X.K H H' ∧ RS T X.K H' σ' σv' ∧ Abs T X.K H' G' ∧ whU (tstU tc) tb m DU σ' G', ⟨n, σ, G, TL.refl _, rs, ab, h⟩, ?_⟩
    rintro m σv1 H1 ⟨σ1, G1, t1, rs1, ab1, h1⟩
    cases m with
    | zero => exact h1.elim
    | succ m =>
      refine ⟨σ1, G1, _, rs1, ab1, h1, fun k H2 ⟨G2, t2, ab2, h2⟩ => ?_⟩
      cases k with
      | true =>
        refine ⟨fun σv' H' => ∃ σ' G', TL X.K H H' ∧ RS T X.K H' σ' σv' ∧ Abs T X.K H' G' ∧ whU (tstU tc) tb m DU σ' G', fun σv' H' z => ⟨m, Nat.lt_succ_self m, z⟩, ?_⟩
        refine ⟨σ1, G2, _, rs1.mono t2, ab2, h2, fun σ' H' z => ?_, fun v H' z => ?_, fun σ' H' z => ?_, fun σ' H' z => ?_⟩
        · obtain ⟨σ3, G3, t3, ab3, rs3, h3⟩ := z
          exact ⟨σ3, G3, (t1.trans t2).trans t3, rs3, ab3, h3⟩
        · exact hrt _ _ (z.from (t1.trans t2))
        · exact hnx _ _ (z.from (t1.trans t2))
        · obtain ⟨σ3, G3, t3, ab3, rs3, h3⟩ := z
          exact ⟨σ3, G3, (t1.trans t2).trans t3, rs3, ab3, h3⟩
      | false => exact hnx _ _ ⟨σ1, G2, t1.trans t2, ab2, rs1.mono t2, h2⟩
end

/-! ### comprehensions -/
section
variable {T : Tb} {X : Cx} {wi : TIU} {t : Tg} {tt : TTU} {te : TEU}
theorem wipe_wipe (σ : L2.St) : ∀ vs : List Nat, wipe (wipe σ vs) vs = wipe σ vs := fun vs => by
  have key : ∀ (ws : List Nat), (∀ i ∈ ws, i ∈ vs) → wipe (wipe σ ws) vs = wipe σ vs := by
    intro ws
    induction ws with
    | nil => intro _; rfl
    | cons w ws ih =>
      intro h
      show wipe ((wipe σ ws).set w none) vs = _
      rw [wipe_set (h w List.mem_cons_self), ih fun i hi => h i (List.mem_cons_of_mem _ hi)]
  exact key vs fun _ h => h
theorem wipe_RS {K : PySem.W.Frag} {H : Hp} {σ : SU} {σv : L2.St} (r : RS T K H σ σv) : ∀ vs : List Nat, RS T K H (wipeU σ vs) (wipe σv vs)
  | [] => r
  | v :: vs => by
    unfold wipeU wipe
    exact (wipe_RS r vs).unset v none
theorem lc_below {own : List Nat} (ho : ∀ i ∈ slotsT t, i ∈ own) (σv : L2.St) (H : Hp) (Qv : VK)
    (h : lE T X.K (fun σ G Q => wi σ G fun src items G1 => ∀ D, G1 D = none → lcU (gU t) tt te src D (wipeU σ own) (Q (.ref D)) items [] (put G1 D (.lst []))) σv H Qv) :
    tLc (lI T X.K wi) (gV X.K t) (lT T X.K tt) (lE T X.K te) own σv H Qv := by
  obtain ⟨σ, G, Q, rs, ab, h, q⟩ := h
  refine ⟨σ, G, _, rs, ab, h, fun J H0 src items G0 t0 ab0 wk h0 => ?_⟩
  intro D nD
  have tN : TL X.K H0 (upd H0 D (.lst [])) := TL.new nD
  have nt : isTup (H0 D) = false := by rw [nD]; rfl
  refine ⟨fun i m H => ∃ G acc, m = items.length - i ∧ i ≤ items.length ∧ TL X.K H0 H ∧ Abs T X.K H G ∧ lcU (gU t) tt te src D (wipeU σ own) (Q (.ref D)) (items.drop i) acc G,
    ⟨items.length, put G0 D (.lst []), [], by omega, by omega, tN, ab0.put nt ⟨[], upd_same, .nil⟩, h0 D (ab0.free nD)⟩, ?_⟩
  rintro i m H1 ⟨G1, acc, rfl, hi, t1, ab1, h1⟩
  by_cases hlt : i < items.length
  · have e : items.drop i = items[i] :: items.drop (i + 1) := List.drop_eq_getElem_cons hlt
    rw [e] at h1
    obtain ⟨hs, h1⟩ := h1
    refine .inr ⟨wk.go i H1 G1 t1 ab1 hs hlt, fun H' => ∃ G' acc', TL X.K H0 H' ∧ Abs T X.K H' G' ∧ lcU (gU t) tt te src D (wipeU σ own) (Q (.ref D)) (items.drop (i + 1)) acc' G', ?_, fun xv H2 y => ?_⟩
    · rintro H' ⟨G', acc', t', ab', h'⟩
      exact ⟨items.length - (i + 1), by omega, G', acc', rfl, hlt, t', ab', h'⟩
    · obtain ⟨t2, ab2, rx⟩ := wk.yld i H1 G1 xv H2 t1 ab1 hs y
      have rx := rx items[i] (List.getElem?_eq_getElem hlt)
      have rsW : RS T X.K H2 (wipeU σ own) (wipe σv own) := wipe_RS (rs.mono ((t0.trans t1).trans t2)) own
      refine gU_gV t items[i] xv _ _ G1 _ _ rx rsW h1 fun σv2 σ2 rs2 h2 hw => ?_
      refine ⟨by rw [hw own ho]; exact wipe_wipe σv own, σ2, G1, _, rs2, ab2, h2, fun k H3 ⟨G3, t3, ab3, h3⟩ => ?_⟩
      cases k with
      | true =>
        refine ⟨σ2, G3, _, rs2.mono t3, ab3, h3, fun yv H4 ⟨y', G4, t4, ab4, ry, hD, hz, h4⟩ => ?_⟩
        obtain ⟨ws, hw4, rw4⟩ := ab4 _ _ hD
        have nt4 : isTup (H4 D) = false := by rw [hw4]; rfl
        refine ⟨ws, hw4, by rw [← rw4.length]; exact hz, put G4 D (.lst (acc ++ [y'])), acc ++ [y'], (((t1.trans t2).trans t3).trans t4).trans (TL.upd nt4), ab4.put nt4 ⟨_, upd_same, RUs.mono (TL.upd nt4) _ _ (rw4.append (.cons ry .nil))⟩, h4⟩
      | false => exact ⟨G3, acc, ((t1.trans t2).trans t3), ab3, h3⟩
  · have ei : i = items.length := by omega
    subst ei
    rw [List.drop_length] at h1
    exact .inl ⟨wk.stop H1 G1 t1 ab1 h1.1, q _ _ ⟨.ref D, G1, t0.trans t1, ab1, .ref D, h1.2⟩⟩
end
end Y

namespace Y
open PySem PySem.Spec PyProof.Rows L2

/-! ### statements -/
section
variable {T : Tb} {X : Cx} {e c o tg : Expr} {st : Stmt} {rest sa sb : List Stmt} {te tc to ta tb : TEU} {t1 t2 : TSU} {pos pos' : Pos} {t : Tg}
theorem q_pass : QS T X (.Pass pos) (fun D σ G => D.nx σ G) := PSi ps_pass fun D σv H h => by
  obtain ⟨σ, G, DU, rs, ab, h, hnx, _⟩ := h
  exact hnx _ _ ⟨σ, G, TL.refl _, ab, rs, h⟩
theorem q_brk : QS T X (.Break pos) (fun D σ G => D.bk σ G) := PSi ps_break fun D σv H h => by
  obtain ⟨σ, G, DU, rs, ab, h, hnx, hrt, hbk, hct⟩ := h
  exact hbk _ _ ⟨σ, G, TL.refl _, ab, rs, h⟩
theorem q_cnt : QS T X (.Continue pos) (fun D σ G => D.ct σ G) := PSi ps_continue fun D σv H h => by
  obtain ⟨σ, G, DU, rs, ab, h, hnx, hrt, hbk, hct⟩ := h
  exact hct _ _ ⟨σ, G, TL.refl _, ab, rs, h⟩
theorem q_expr (he : QE T X e te) (hs : swapsWith e none pos.line X.env = pure false) : QS T X (.Expr e pos) (fun D σ G => te σ G fun _ G1 => D.nx σ G1) := PSi (ps_expr he hs) fun D σv H h => by
  obtain ⟨σ, G, DU, rs, ab, h, hnx, hrt, hbk, hct⟩ := h
  exact ⟨σ, G, _, rs, ab, h, fun v H1 ⟨x, G1, t1, ab1, rx, h1⟩ => hnx _ _ ⟨σ, G1, t1, ab1, rs.mono t1, h1⟩⟩
theorem q_ret (he : QE T X e te) : QS T X (.Return (some e) pos) (fun D σ G => te σ G D.rt) := PSi (ps_ret he) fun D σv H h => by
  obtain ⟨σ, G, DU, rs, ab, h, hnx, hrt, hbk, hct⟩ := h
  exact ⟨σ, G, _, rs, ab, h, fun v H1 z => hrt _ _ z⟩
theorem q_retN : QS T X (.Return none pos) (fun D _ G => D.rt .non G) := PSi ps_retN fun D σv H h => by
  obtain ⟨σ, G, DU, rs, ab, h, hnx, hrt, hbk, hct⟩ := h
  exact hrt _ _ (QV.same ab .non h)
theorem q_if (hc : QT T X c (tstU tc)) (ha : QSs T X sa t1) (hb : QSs T X sb t2) : QS T X (.If c sa sb pos) (fun D σ G => tc σ G fun x G1 => isB x fun k => if k = true then t1 D σ G1 else t2 D σ G1) :=
  PSi (ps_if hc ha hb) fun D σv H h => by
    obtain ⟨σ, G, DU, rs, ab, h, hnx, hrt, hbk, hct⟩ := h
    refine ⟨σ, G, fun k G1 => if k = true then t1 DU σ G1 else t2 DU σ G1, rs, ab, h, fun k H1 ⟨G1, u1, ab1, h1⟩ => ?_⟩
    cases k with
    | true => exact ⟨σ, G1, DU, rs.mono u1, ab1, h1, fun _ _ z => hnx _ _ (z.from u1), fun _ _ z => hrt _ _ (z.from u1), fun _ _ z => hbk _ _ (z.from u1), fun _ _ z => hct _ _ (z.from u1)⟩
    | false => exact ⟨σ, G1, DU, rs.mono u1, ab1, h1, fun _ _ z => hnx _ _ (z.from u1), fun _ _ z => hrt _ _ (z.from u1), fun _ _ z => hbk _ _ (z.from u1), fun _ _ z => hct _ _ (z.from u1)⟩
theorem q_nil : QSs T X [] (fun D σ G => D.nx σ G) := PSsi pss_nil fun D σv H h => by
  obtain ⟨σ, G, DU, rs, ab, h, hnx, _⟩ := h
  exact hnx _ _ ⟨σ, G, TL.refl _, ab, rs, h⟩
theorem q_cons (h1 : QS T X st t1) (h2 : QSs T X rest t2) : QSs T X (st :: rest) (fun D σ G => t1 { nx := fun σ' G' => ∃ G2, Sub G2 G' ∧ t2 D σ' G2, rt := D.rt, bk := D.bk, ct := D.ct } σ G) :=
  PSsi (pss_cons h1 h2) fun D σv H h => by
    obtain ⟨σ, G, DU, rs, ab, h, hnx, hrt, hbk, hct⟩ := h
    refine ⟨σ, G, _, rs, ab, h, fun σv' H' z => ?_, hrt, hbk, hct⟩
    obtain ⟨σ1, G1, u1, ab1, rs1, G2, s2, h2⟩ := z
    exact ⟨σ1, G2, DU, rs1, ab1.sub s2, h2, fun _ _ z => hnx _ _ (z.from u1), fun _ _ z => hrt _ _ (z.from u1), fun _ _ z => hbk _ _ (z.from u1), fun _ _ z => hct _ _ (z.from u1)⟩
theorem asg_below (D : Ends) (σv : L2.St) (H : Hp) (h : lS T X.K (fun D σ G => te σ G fun x G1 => gU t x σ G1 D.nx) D σv H) : tAsg (lE T X.K te) (gV X.K t) D σv H := by
  obtain ⟨σ, G, DU, rs, ab, h, hnx, hrt, hbk, hct⟩ := h
  refine ⟨σ, G, _, rs, ab, h, fun v H1 ⟨x, G1, u1, ab1, rx, h1⟩ => ?_⟩
  exact gU_gV t x v σ σv G1 _ _ rx (rs.mono u1) h1 fun σv2 σ2 rs2 h2 _ => hnx _ _ ⟨σ2, G1, u1, ab1, rs2, h2⟩
theorem q_asg (he : QE T X e te) (hg : PG X tg (gV X.K t)) (hs : swapsWithSole [tg] e pos.line X.env = pure false) (hw : swappedStores [tg] e X.env = pure none) (h1 : (assignEach [tg] X.env).map (·.2) = [assign tg X.env]) :
    QS T X (.Assign [tg] e pos) (fun D σ G => te σ G fun x G1 => gU t x σ G1 D.nx) := PSi (ps_asg he hg hs hw h1) fun D σv H h => asg_below D σv H h
theorem q_set {i : Nat} {x : Str} (hN : X.N.Nodup) (hi : X.N[i]? = some x) (hx : Loc X.env.scope x) (he : QE T X e te) (hs : swapsWith e (some (.Name x pos')) pos.line X.env = pure false) (hf : X.fn x = true ∨ X.env.scope.names.lookup x = some .local) :
    QS T X (.Assign [.Name x pos'] e pos) (fun D σ G => te σ G fun x G1 => gU (.name i) x σ G1 D.nx) := PSi (ps_set hN hi hx he hs hf) fun D σv H h => asg_below (t := .name i) D σv H h
theorem q_par {i j : Nat} {x y : Str} {a b : Expr} {px py pt : Pos} {kt k2 pt2} (hc : X.calm = true) (hN : X.N.Nodup) (hi : X.N[i]? = some x) (hj : X.N[j]? = some y) (hij : i ≠ j)
    (hx : X.env.scope.names.lookup x = some .local) (hy : X.env.scope.names.lookup y = some .local) (ha : QE T X a ta) (hb : QE T X b tb) (hsa : starEach [a, b] X.env = (false, eval a X.env) :: starEach [b] X.env) (hsb : starEach [b] X.env = (false, eval b X.env) :: starEach [] X.env)
    (hw : swappedStores [.Tuple [.Name x px, .Name y py] kt pt] (.Tuple [a, b] k2 pt2) X.env = pure (some [x, y]))
    (hs : swapsWithSole [.Tuple [.Name x px, .Name y py] kt pt] (.Tuple [a, b] k2 pt2) pos.line X.env = pure false) :
    QS T X (.Assign [.Tuple [.Name x px, .Name y py] kt pt] (.Tuple [a, b] k2 pt2) pos) (fun D σ G => ta σ G fun x G1 => tb σ G1 fun y G2 => D.nx ((σ.set i (some x)).set j (some y)) G2) :=
  PSi (ps_par hc hN hi hj hij hx hy (pa_cons ha (pa_cons hb pa_nil hsb) hsa) hw hs) fun D σv H h => by
    obtain ⟨σ, G, DU, rs, ab, h, hnx, hrt, hbk, hct⟩ := h
    refine ⟨σ, G, _, rs, ab, h, fun v H1 ⟨x, G1, u1, ab1, rx, h1⟩ => ⟨σ, G1, _, rs.mono u1, ab1, h1, fun w H2 ⟨y, G2, u2, ab2, ry, h2⟩ => ⟨v, w, rfl, ?_⟩⟩⟩
    exact hnx _ _ ⟨_, G2, u1.trans u2, ab2, ((rs.mono (u1.trans u2)).set i (RU.mono u2 _ _ rx)).set j ry, h2⟩
theorem q_rse {st : Stmt} : QS T X st (fun _ _ _ => False) := PSi ps_never fun D σv H h => by
  obtain ⟨σ, G, DU, rs, ab, h, _⟩ := h
  exact h
theorem q_setA {n : Nat} {cs : List Nat} {o : Expr} {to : TEU} (ok : ∀ c, cs.contains c = true → Cls X.K (T.cA c) ∧ NoAttr X.K (T.cA c) (T.nm n)) (ho : QE T X o to) (he : QE T X e te) (hs : swapsWith e (some (.Attribute o (T.nm n) pos')) pos.line X.env = pure false) :
    QS T X (.Assign [.Attribute o (T.nm n) pos'] e pos) (fun D σ G => te σ G fun y G1 => to σ G1 fun x G2 => insU x G2 fun a c fs => cs.contains c = true ∧ fs.length < 1000 ∧ D.nx σ (put G2 a (.ins c (putN n y fs)))) :=
  PSi (ps_fld ho he hs) fun D σv H h => by
    obtain ⟨σ, G, DU, rs, ab, h, hnx, hrt, hbk, hct⟩ := h
    refine ⟨σ, G, _, rs, ab, h, fun v H1 ⟨y, G1, u1, ab1, ry, h1⟩ => ⟨σ, G1, _, rs.mono u1, ab1, h1, fun w H2 ⟨x, G2, u2, ab2, rx, h2⟩ => ?_⟩⟩
    obtain ⟨a, c, fs, dx, m, rfl, rfl, e1, e2, fr, hc, hl, h2⟩ := insU_of h2 ab2 rx
    have nt : isTup (H2 a) = false := by rw [e2]; rfl
    refine ⟨a, _, dx, m, rfl, e2, (ok c hc).1, (ok c hc).2, by rw [← fr.length]; exact hl, hnx _ _ ⟨σ, _, (u1.trans u2).trans (TL.upd nt), ab2.put (o := .ins c (putN n y fs)) nt ⟨dx, _, upd_same, ?_⟩, (rs.mono (u1.trans u2)).mono (TL.upd nt), h2⟩⟩
    exact (FR.put (RU.mono u2 _ _ ry) fr).mono (TL.upd nt)
theorem PSet.or {t t' : TSet} (h : PSet X t) (h' : PSet X t') : PSet X (fun o i v H Q => t o i v H Q ∨ t' o i v H Q) := by
  intro pins s σ H o i v ov iv u Q I ro ri rv q
  rcases q with q | q
  · exact h pins s σ H o i v ov iv u Q I ro ri rv q
  · exact h' pins s σ H o i v ov iv u Q I ro ri rv q
theorem q_setI {o i : Expr} {to ti : TEU} {tpos : Pos} (hu : X.A.units + 1 < cLine) (ho : QE T X o to) (hi : QE T X i ti) (he : QE T X e te)
    (ha : ∀ v, assign (.Subscript o i tpos) X.env v = (do
      let ov ← holding [v] (eval o X.env)
      let iv ← holding [v, ov] (eval i X.env)
      standAt tpos
      holding [v, ov, iv] (setItem ov iv v)
      release [v, ov, iv] []))
    (hs : swapsWithSole [.Subscript o i tpos] e pos.line X.env = pure false) (hw : swappedStores [.Subscript o i tpos] e X.env = pure none) :
    QS T X (.Assign [.Subscript o i tpos] e pos) (fun D σ G => te σ G fun z G1 => to σ G1 fun x G2 => ti σ G2 fun y G3 => setU x y z G3 fun G4 => D.nx σ G4) :=
  PSi (ps_asg he (pg_sub ho hi (PSet.or set_list (set_dict hu)) ha) hs hw rfl) fun D σv H h => by
    obtain ⟨σ, G, DU, rs, ab, h, hnx, hrt, hbk, hct⟩ := h
    refine ⟨σ, G, _, rs, ab, h, fun v H1 ⟨z, G1, u1, ab1, rz, h1⟩ => ⟨σ, G1, _, rs.mono u1, ab1, h1, fun w H2 ⟨x, G2, u2, ab2, rx, h2⟩ => ⟨σ, G2, _, rs.mono (u1.trans u2), ab2, h2, fun w3 H3 ⟨y, G3, u3, ab3, ry, h3⟩ => ?_⟩⟩⟩
    have rx3 := RU.mono u3 _ _ rx
    have rz3 := RU.mono (u2.trans u3) _ _ rz
    have ut := (u1.trans u2).trans u3
    replace h3 : setU x y z G3 fun G4 => DU.nx σ G4 := h3
    cases x with
    | ref a =>
      cases rx3
      simp only [setU] at h3
      split at h3
      · rename_i xs ea
        obtain ⟨k, rfl, ey, h4⟩ := partU_of h3 ry
        obtain ⟨vs, e1, r1⟩ := ab3 _ _ ea
        split at h4
        · rename_i j ej
          have nt : isTup (H3 a) = false := by rw [e1]; rfl
          refine .inl ⟨a, vs, k, j, rfl, rfl, e1, by rw [← r1.length]; exact ej, hnx _ _ ⟨σ, _, ut.trans (TL.upd nt), ab3.put (o := .lst (xs.set j z)) nt ⟨_, upd_same, ?_⟩, (rs.mono ut).mono (TL.upd nt), h4⟩⟩
          exact RUs.mono (TL.upd nt) _ _ (RUs.set rz3 j r1)
        · exact h4.elim
      · rename_i kvs ea
        obtain ⟨m, e1, d⟩ := ab3 _ _ ea
        obtain ⟨k, hk⟩ := Option.isSome_iff_exists.mp h3.1
        have ey := key_V hk ry
        subst ey
        have nt : isTup (H3 a) = false := by rw [e1]; rfl
        refine .inr ⟨a, _, rfl, DPut.k e1 (by rw [← d.length]; exact h3.2.1), hnx _ _ ⟨σ, _, ut.trans (TL.upd nt), ab3.put (o := .dic (putKU kvs y z)) nt ⟨_, upd_same, ?_⟩, (rs.mono ut).mono (TL.upd nt), h3.2.2⟩⟩
        exact (d.put hk rz3).mono (TL.upd nt)
      · exact h3.elim
      · exact h3.elim
    | _ => exact h3.elim
theorem q_aug {i : Nat} {x : Str} (hN : X.N.Nodup) (hi : X.N[i]? = some x) (hx : Loc X.env.scope x) (he : QE T X e te) (hf : X.fn x = true ∨ X.env.scope.names.lookup x = some .local) :
    QS T X (.AugAssign (.Name x pos') .Add e pos) (fun D σ G => match σ[i]? with
      | some (some (.int x)) => te σ G fun y G1 => partU y fun j => D.nx (σ.set i (some (.int (x + j)))) G1
      | _ => False) :=
  PSi (ps_aug hN hi hx he ip_add hf) fun D σv H h => by
    obtain ⟨σ, G, DU, rs, ab, h, hnx, hrt, hbk, hct⟩ := h
    split at h
    · rename_i z ez
      obtain ⟨v, ev, rv⟩ := rs.2 _ _ ez
      cases rv
      refine ⟨_, ev, σ, G, _, rs, ab, h, fun w H1 ⟨y, G1, u1, ab1, ry, h1⟩ => ?_⟩
      obtain ⟨j, ej, _, h1⟩ := partU_of h1 ry
      exact ⟨z, j, rfl, ej, hnx _ _ ⟨_, G1, u1, ab1, (rs.mono u1).set i (.int _), h1⟩⟩
    · exact h.elim
end
end Y

namespace Y
open PySem PySem.Spec PyProof.Rows L2

/-! ### from the text to its form -/
structure CE where
  N : List Str
  cons : List (Str × U)
  fns : List (Str × Nat)
  blt : List Str
  cls : List (Str × (Nat × Nat)) := []
  fld : List (Str × (Nat × List Nat)) := []
  mts : List (Str × (Nat × List (Nat × Nat))) := []
def ixS : List Str → Str → Option Nat
  | [], _ => none
  | y :: r, x => if y = x then some 0 else (ixS r x).map (· + 1)
theorem ixS_get : ∀ {l : List Str} {x : Str} {i : Nat}, ixS l x = some i → l[i]? = some x
  | [], _, _, h => by cases h
  | y :: r, x, i, h => by
    unfold ixS at h
    split at h
    · rename_i e
      cases h
      rw [← e]; rfl
    · rw [Option.map_eq_some_iff] at h
      obtain ⟨j, hj, rfl⟩ := h
      show r[j]? = some x
      exact ixS_get hj
def bis : List Bi := [.len, .all, .any, .sum, .abs, .min, .max, .int, .str, .list, .tuple, .isi, .sorted, .dict]
def biOf (x : Str) : Option Bi := bis.find? fun b => decide (b.nm = x)
theorem biOf_nm {x : Str} {b : Bi} (h : biOf x = some b) : b.nm = x := by
  have := List.find?_some h
  exact of_decide_eq_true this
def bms : List Bm := [.append, .extend, .startswith, .split, .join, .sindex]
def bmOf (x : Str) : Option Bm := bms.find? fun b => decide (b.nm = x)
theorem bmOf_nm {x : Str} {b : Bm} (h : bmOf x = some b) : b.nm = x := by
  have := List.find?_some h
  exact of_decide_eq_true this
def BT.py : BT → Str
  | .non => "NoneType" | .bool => "bool" | .int => "int" | .str => "str" | .tup => "tuple" | .lst => "list" | .dic => "dict"
def tys : List BT := [.bool, .int, .str, .tup, .lst, .dic]
def tyOf (x : Str) : Option BT := tys.find? fun b => decide (b.py = x)
theorem tyOf_ok {x : Str} {b : BT} (h : tyOf x = some b) : bootBuiltins x = some (.type b.nm) ∧ x ≠ "__name__" := by
  have h1 := List.find?_some h
  have h2 := List.mem_of_find?_eq_some h
  have e : b.py = x := of_decide_eq_true h1
  subst e
  cases b <;> first
    | exact ⟨by decide +kernel, by decide +kernel⟩
    | exact absurd h2 (by decide)
def dbg (x : Str) : Bool := (x == ("__debug__" : Str)) || (x == ("__classdict__" : Str))
def cName (ce : CE) (sc : Scope) (x : Str) : Option Ex :=
  if dbg x = true then none else
  match sc.names.lookup x with
  | some .local => (ixS ce.N x).map .var
  | some .cell => (ixS ce.N x).map .var
  | some .free => (ixS ce.N x).map .var
  | some .globalImplicit => (match ce.cons.lookup x with
    | some u => some (.lit u)
    | none => if ce.blt.contains x = true then (tyOf x).map fun t => .lit (.ty t) else none)
  | _ => none
def cConst : Const → Option Ex
  | .none => some (.lit .non)
  | .bool b => some (.lit (.bl b))
  | .int i => some (.lit (.int i))
  | .str x => some (.lit (.str x))
  | _ => none
def cEs (f : Expr → Option Ex) : List Expr → Option Exs
  | [] => some .nil
  | e :: es => (f e).bind fun x => (cEs f es).bind fun r => some (.cons x r)
def cO (f : Expr → Option Ex) : Option Expr → Option Exo
  | none => some .none
  | some e => (f e).map .some
def cB (f : Expr → Option Ex) (op : BoolOp) : List Expr → Option Ex
  | [] => none
  | [e] => f e
  | e :: es => (f e).bind fun x => (cB f op es).bind fun r => some (match op with
    | .And => .conj x r
    | .Or => .disj x r)
/-- may x be stored -/
def stOk (sc : Scope) (fo : Str → Bool) (x : Str) : Bool := match sc.names.lookup x with
  | some .local => true
  | some .cell => fo x
  | _ => false
def cT (ce : CE) (sc : Scope) (fo : Str → Bool) : Nat → Expr → Option Tg
  | 0, _ => none
  | n + 1, e => match e with
    | .Name x _ => if stOk sc fo x = true then (ixS ce.N x).map .name else none
    | .Tuple es _ _ => (cTs (cT ce sc fo n) es).map .tup
    | _ => none
where cTs (f : Expr → Option Tg) : List Expr → Option (List Tg)
  | [] => some []
  | e :: es => (f e).bind fun x => (cTs f es).bind fun r => some (x :: r)
def ownOf (N : List Str) (scope : Scope) : List (Str × Nat) := scope.names.filterMap fun p => match p.2 with
  | .local => (ixS N p.1).map fun i => (p.1, i)
  | .cell => (ixS N p.1).map fun i => (p.1, i)
  | _ => none
def ownI (N : List Str) (scope : Scope) : List Nat := (ownOf N scope).map fun (p : Str × Nat) => p.2
def cellOf (scope : Scope) (x : Str) : Bool := scope.names.lookup x == some .cell
def isGl (sc : Scope) (x : Str) : Bool := sc.names.lookup x == some .globalImplicit
def isTp : Expr → Bool
  | .Tuple _ _ _ => true
  | _ => false
def cI (ce : CE) (f : Expr → Option Ex) (sc : Scope) (tg e : Expr) : Option It' := match e with
  | .Call (.Name x _) [a] [] _ => if (decide (x = "range") && isGl sc x && ce.blt.contains x) = true then (f a).map .rng1 else
      if (decide (x = "enumerate") && isGl sc x && ce.blt.contains x && isTp tg) = true then (f a).map .enm else (f e).map .ex
  | .Call (.Name x _) [a, b] [] _ => if (decide (x = "range") && isGl sc x && ce.blt.contains x) = true then (f a).bind fun x => (f b).bind fun y => some (.rng2 x y) else
      if (decide (x = "zip") && isGl sc x && ce.blt.contains x && isTp tg) = true then (f a).bind fun x => (f b).bind fun y => some (.zp x y) else (f e).map .ex
  | e => (f e).map .ex
def notSet : Expr → Bool
  | .Set _ _ _ => false
  | .Slice _ _ _ _ => false
  | .Starred _ _ => false
  | _ => true
def cIfs (f : Expr → Option Ex) : List Expr → Option Exo
  | [] => some .none
  | [c] => (f c).map .some
  | _ => none
/-- no call without arguments stands ahead of the dot -/
def rcv : Expr → Bool
  | .Call (.Name _ _) [] [] _ => false
  | _ => true
def cPr (f : Expr → Option Ex) : List (Option Expr) → List Expr → Option Exs
  | [], [] => some .nil
  | some k :: ks, v :: vs => (f k).bind fun x => (f v).bind fun y => (cPr f ks vs).bind fun r => some (.cons x (.cons y r))
  | _, _ => none
def cE (ce : CE) : Nat → Scope → Expr → Option Ex
  | 0, _, _ => none
  | n + 1, sc, e => match e with
    | .Name x _ => cName ce sc x
    | .Constant c _ _ => cConst c
    | .BinOp a op b _ => (cE ce n sc a).bind fun x => (cE ce n sc b).bind fun y => some (.bin op x y)
    | .UnaryOp .USub a _ => (cE ce n sc a).map .neg
    | .UnaryOp .Not a _ => (cE ce n sc a).map .inv
    | .Compare a [op] [b] _ => (cE ce n sc a).bind fun x => (cE ce n sc b).bind fun y => some (.cmp op x y)
    | .Compare a [op, op'] [b, c] _ => (cE ce n sc a).bind fun x => (cE ce n sc b).bind fun y => (cE ce n sc c).bind fun z => some (.chn op op' x y z)
    | .BoolOp op vs _ => cB (cE ce n sc) op vs
    | .IfExp c a b _ => (cE ce n sc c).bind fun z => (cE ce n sc a).bind fun x => (cE ce n sc b).bind fun y => some (.ite z x y)
    | .Subscript a (.Slice lo hi none _) _ => (cE ce n sc a).bind fun x => (cO (cE ce n sc) lo).bind fun l => (cO (cE ce n sc) hi).bind fun h => some (.slc x l h)
    | .Subscript a b _ => (cE ce n sc a).bind fun x => (cE ce n sc b).bind fun y => some (.ix x y)
    | .Tuple es _ _ => (cEs (cE ce n sc) es).map .tup
    | .List es _ => (cEs (cE ce n sc) es).map .lst
    | .Dict [] [] _ => some .emp
    | .Call (.Name x _) es [] _ => if (isGl sc x && !(dbg x)) = true then (match ce.fns.lookup x with
        | some f => (cEs (cE ce n sc) es).map fun r => .call f r
        | none => match ce.cls.lookup x with
          | some p => (cEs (cE ce n sc) es).map fun r => .new p.1 p.2 r
          | none => if (ce.blt.contains x && !es.isEmpty) = true then (biOf x).bind fun b => (cEs (cE ce n sc) es).map fun r => .blt b r else none)
      else none
    | .Attribute o f _ => if rcv o = true then (ce.fld.lookup f).bind fun p => (cE ce n sc o).map fun x => .att x p.1 p.2 else none
    | .Dict ks vs _ => if (decide (ks.length ≤ 15) && !ks.isEmpty) = true then (cPr (cE ce n sc) ks vs).map .dsp else none
    | .Call (.Attribute o m apos) es [] pos => if (decide (apos.endLine = pos.line) && decide (es.length < 20) && rcv o) = true then
        (match ce.mts.lookup m with
          | some p => (cE ce n sc o).bind fun x => (cEs (cE ce n sc) es).map fun r => .mth x p.1 p.2 r
          | none => if es.isEmpty = true then none else (bmOf m).bind fun b => (cE ce n sc o).bind fun x => (cEs (cE ce n sc) es).map fun r => .btm x b r) else none
    | .ListComp elt [⟨tg, iter, ifs, 0⟩] scope _ =>
        if blkC ce.N sc scope (ownOf ce.N scope) = true then
          (cE ce n (relS scope sc) elt).bind fun x => (cT ce (relS scope sc) (cellOf scope) n tg).bind fun t => (cI ce (cE ce n sc) sc tg iter).bind fun it =>
            (cIfs (cE ce n (relS scope sc)) ifs).bind fun c =>
              if (slotsT t).all (fun i => (ownI ce.N scope).contains i) = true then some (.lc x (ownI ce.N scope) t it c) else none
        else none
    | _ => none
def cS (ce : CE) (sc : Scope) (fo : Str → Bool) : Nat → Stmt → Option Sm
  | 0, _ => none
  | n + 1, s => match s with
    | .Pass _ => some .pass
    | .Break _ => some .brk
    | .Continue _ => some .cnt
    | .Expr (.ListComp _ _ _ _) _ => none
    | .Expr e _ => (cE ce n sc e).map .expr
    | .Return none _ => some .retN
    | .Return (some e) _ => (cE ce n sc e).map .ret
    | .If c a b _ => (cE ce n sc c).bind fun x => (cSs (cS ce sc fo n) a).bind fun p => (cSs (cS ce sc fo n) b).bind fun q => some (.ifs x p q)
    | .While c b [] _ => (cE ce n sc c).bind fun x => (cSs (cS ce sc fo n) b).bind fun p => some (.whl x p)
    | .For tg it b [] _ => (cT ce sc fo n tg).bind fun t => (cI ce (cE ce n sc) sc tg it).bind fun i => (cSs (cS ce sc fo n) b).bind fun p => some (.fors t i p)
    | .Assign [.Name x px] (.ListComp elt gs scope lp) pos => if (decide (sc.names.lookup x = some .local) && decide (px.line = lp.line) && !(scope.names.any fun p => p.1 == x && (p.2 == .local || p.2 == .cell))) = true then
        (ixS ce.N x).bind fun i => (cE ce n sc (.ListComp elt gs scope lp)).map fun y => .set (.name i) y else none
    | .Assign [.Name x _] e _ => if stOk sc fo x = true then (ixS ce.N x).bind fun i => (cE ce n sc e).map fun y => .set (.name i) y else none
    | .Assign [.Tuple [.Name x px, .Name y py] _ _] (.Tuple [a, b] _ _) _ =>
        if (decide (sc.names.lookup x = some .local) && decide (sc.names.lookup y = some .local) && decide (px.line = py.line) && !(decide (x = y)) && !(foldedForSure 8 a && foldedForSure 8 b) && !(constantsAlone 8 a && constantsAlone 8 b)) = true then
          (ixS ce.N x).bind fun i => (ixS ce.N y).bind fun j => (cE ce n sc a).bind fun p => (cE ce n sc b).bind fun q => if i = j then none else some (.par i j p q) else none
    | .Assign [.Tuple ts k p] e _ => (match e with
        | .Tuple es k2 p2 => if 4 ≤ ts.length then (cT ce sc fo n (.Tuple ts k p)).bind fun t => (cE ce n sc (.Tuple es k2 p2)).map fun y => .set t y else none
        | .ListComp _ _ _ _ => none
        | e => (cT ce sc fo n (.Tuple ts k p)).bind fun t => (cE ce n sc e).map fun y => .set t y)
    | .Assign [.Attribute o f _] e _ => (ce.fld.lookup f).bind fun p => (cE ce n sc o).bind fun x => (cE ce n sc e).map fun y => .setA x p.1 p.2 y
    | .Assign [.Subscript o i _] e _ => (cE ce n sc o).bind fun x => (cE ce n sc i).bind fun j => (cE ce n sc e).map fun y => .setI x j y
    | .Raise _ _ _ => some .rse
    | .AugAssign (.Name x _) .Add e _ => if stOk sc fo x = true then (ixS ce.N x).bind fun i => (cE ce n sc e).map fun y => .aug i .Add y else none
    | _ => none
where cSs (f : Stmt → Option Sm) : List Stmt → Option Sms
  | [] => some .nil
  | s :: ss => (f s).bind fun x => (cSs f ss).bind fun r => some (.cons x r)
end Y

namespace Y
open PySem PySem.Spec PyProof.Rows L2

structure MF (T : Tb) (Γ : Gm) (ce : CE) (P : Program) (w : World) (K : PySem.W.Frag) (mg : Str → Option Value) (base : Heap) (k : Nat) : Prop where
  fn : ∀ x i, ce.fns.lookup x = some i → ∃ f, mg x = some (.ref f) ∧ FnN T P w K mg base k f (Γ.ar i) (Γ.fn i)
  con : ∀ x u, ce.cons.lookup x = some u → ∃ v val, mg x = some val ∧ L2.RelV v val ∧ ∀ H, RU T K H u v
  blt : ∀ x, ce.blt.contains x = true → mg x = none
  cls : ∀ x c f, ce.cls.lookup x = some (c, f) → mg x = some (.ref (T.cA c)) ∧ NewN T P w K mg base k c (Γ.ar f) (Γ.fn f)
  fld : ∀ x n cs, ce.fld.lookup x = some (n, cs) → T.nm n = x ∧ ∀ c, cs.contains c = true → Cls K (T.cA c) ∧ NoAttr K (T.cA c) (T.nm n)
  mth : ∀ x n tbl, ce.mts.lookup x = some (n, tbl) → T.nm n = x ∧ ∀ c f, tbl.lookup c = some f → MthN T P w K mg base k c n (Γ.ar f) (Γ.fn f)
structure GoodC (T : Tb) (Γ : Gm) (ce : CE) (sc : Scope) (fo : Str → Bool) (k : Nat) (E : XS) (X : Cx) : Prop where
  eN : X.N = ce.N
  eS : X.env.scope = sc
  eK : sc.kind = .function
  eF : ∀ x, fo x = true → X.fn x = true
  nd : ce.N.Nodup
  calm : X.calm = true
  room : Room k X.A
  pass : PassesOwn (model X.prog X.w) X.A X.env X.xe
  tk : Takes X (WU T X.K E)
  mf : MF T Γ ce X.prog X.w X.K X.mg X.base k
section
variable {T : Tb} {Γ : Gm} {ce : CE} {sc : Scope} {fo : Str → Bool} {k : Nat} {E : XS} {X : Cx}
theorem cE_star {n : Nat} {e : Expr} {ir : Ex} (h : cE ce n sc e = some ir) (es : List Expr) (env : Env) : starEach (e :: es) env = (false, eval e env) :: starEach es env := by
  cases n with
  | zero => cases h
  | succ n => cases e <;> first
    | rfl
    | (simp only [cE] at h; cases h)
theorem cEs_plain {n : Nat} {env : Env} {pos : Pos} : ∀ {es : List Expr} {irs : Exs}, cEs (cE ce n sc) es = some irs → (backTo pos (starEach es env)).any (·.1) = false ∧ (backTo pos (starEach es env)).all (fun x => !x.1) = true
  | [], _, _ => ⟨rfl, rfl⟩
  | e :: es, irs, h => by
    simp only [cEs, Option.bind_eq_some_iff] at h
    obtain ⟨x, hx, r, hr, _⟩ := h
    obtain ⟨h1, h2⟩ := cEs_plain (env := env) (pos := pos) hr
    rw [cE_star hx es env]
    exact ⟨by show (false || (backTo pos (starEach es env)).any (·.1)) = false; rw [h1]; rfl, by show (true && (backTo pos (starEach es env)).all (fun x => !x.1)) = true; rw [h2]; rfl⟩
theorem cE_notSet {n : Nat} {e : Expr} {ir : Ex} (h : cE ce n sc e = some ir) : notSet e = true := by
  cases n with
  | zero => cases h
  | succ n => cases e <;> first
    | rfl
    | (simp only [cE] at h; cases h)
theorem marks_of {op : CmpOp} {e : Expr} (h : notSet e = true) : behindInMarks op e = false := by
  cases e <;> first
    | rfl
    | cases h
theorem plainIx_of {e : Expr} (h : notSet e = true) : PlainIx e := by
  intro o i
  cases e <;> first
    | rfl
    | cases h
theorem fold_of {e : Expr} (h : notSet e = true) (env : Env) (x : Value) : foldedSetIterable e env x = pure x := by
  cases e <;> first
    | rfl
    | cases h
theorem base_of {o : Expr} {m : Str} {env : Env} {whole : Sem Value} (h : rcv o = true) : attributeBase o m env whole = whole := by
  unfold attributeBase
  split
  · rename_i e _
    cases h
  · rfl
theorem cI_notSet {n : Nat} {tg e : Expr} {i : It'} (h : cI ce (cE ce n sc) sc tg e = some i) : notSet e = true := by
  unfold cI at h
  split at h
  · rfl
  · rfl
  · rw [Option.map_eq_some_iff] at h
    obtain ⟨x, hx, _⟩ := h
    exact cE_notSet hx
/-- names -/
theorem snd_name (g : GoodC T Γ ce sc fo k E X) {x : Str} {pos : Pos} {ir : Ex} (h : cName ce sc x = some ir) : QE T X (.Name x pos) (wpE Γ ir E) := by
  unfold cName at h
  split at h
  · cases h
  · rename_i hd
    have hd' : dbg x = false := by simpa using hd
    unfold dbg at hd'
    rw [Bool.or_eq_false_iff] at hd'
    have fin : ∀ {i : Nat}, ixS ce.N x = some i → Vis X.env.scope x → QE T X (.Name x pos) (wpE Γ (.var i) E) := fun {i} hi hv => q_var (by rw [g.eN]; exact ixS_get hi) hv hd'.1 hd'.2
    split at h
    · rename_i hk
      rw [Option.map_eq_some_iff] at h
      obtain ⟨i, hi, rfl⟩ := h
      exact fin hi (.inl (by rw [g.eS]; exact hk))
    · rename_i hk
      rw [Option.map_eq_some_iff] at h
      obtain ⟨i, hi, rfl⟩ := h
      exact fin hi (.inr (.inl (by rw [g.eS]; exact hk)))
    · rename_i hk
      rw [Option.map_eq_some_iff] at h
      obtain ⟨i, hi, rfl⟩ := h
      exact fin hi (.inr (.inr (by rw [g.eS]; exact hk)))
    · rename_i hk
      have hg : Gl X x := by show X.env.scope.names.lookup x = _; rw [g.eS]; exact hk
      split at h
      · rename_i u hu
        cases h
        obtain ⟨v, val, hm, r, ru⟩ := g.mf.con x u hu
        exact q_con (pe_glob hg hm r hd'.1) ru
      · split at h
        · rename_i hb
          rw [Option.map_eq_some_iff] at h
          obtain ⟨t, ht, rfl⟩ := h
          obtain ⟨h1, h2⟩ := tyOf_ok ht
          exact q_con (pe_bltn (v := .ty t.nm) hg (g.mf.blt x hb) h1 rfl h2 hd'.1) fun H => .ty t
        · cases h
    · cases h
theorem snd_const {c : Const} {j : Nat} {pos : Pos} {ir : Ex} (h : cConst c = some ir) : QE T X (.Constant c j pos) (wpE Γ ir E) := by
  cases c <;> first
    | (cases h; exact q_con pe_non fun H => .non)
    | (cases h; exact q_con pe_bl fun H => .bl _)
    | (cases h; exact q_con pe_int fun H => .int _)
    | (cases h; exact q_con pe_str fun H => .str _)
    | cases h
/-- what is shown of an expression -/
def SE (T : Tb) (Γ : Gm) (ce : CE) (k n : Nat) : Prop := ∀ (sc : Scope) (e : Expr) (ir : Ex), cE ce n sc e = some ir → ∀ (fo : Str → Bool) (E : XS) (X : Cx), GoodC T Γ ce sc fo k E X → QE T X e (wpE Γ ir E) ∧ QT T X e (tstU (wpE Γ ir E))
theorem snd_es {n : Nat} (IH : SE T Γ ce k n) (g : GoodC T Γ ce sc fo k E X) : ∀ {es : List Expr} {irs : Exs}, cEs (cE ce n sc) es = some irs → QA T X es (wpEs Γ irs E)
  | [], irs, h => by cases h; exact qa_nil
  | e :: es, irs, h => by
    simp only [cEs, Option.bind_eq_some_iff] at h
    obtain ⟨x, hx, r, hr, h⟩ := h
    cases h
    exact qa_cons (IH sc e x hx fo E X g).1 (snd_es IH g hr) (cE_star hx es X.env)
theorem snd_pr {n : Nat} (IH : SE T Γ ce k n) (g : GoodC T Γ ce sc fo k E X) : ∀ {ks : List (Option Expr)} {vs : List Expr} {irs : Exs}, cPr (cE ce n sc) ks vs = some irs → PrU T X ks vs (wpEs Γ irs E)
  | [], [], irs, h => by cases h; exact .nil
  | some a :: ks, v :: vs, irs, h => by
    simp only [cPr, Option.bind_eq_some_iff] at h
    obtain ⟨x, hx, y, hy, r, hr, h⟩ := h
    cases h
    exact .cons (IH sc a x hx fo E X g).1 (IH sc v y hy fo E X g).1 (snd_pr IH g hr)
  | none :: _, [], irs, h => by cases h
  | some _ :: _, [], irs, h => by cases h
  | none :: _, _ :: _, irs, h => by cases h
  | [], _ :: _, irs, h => by cases h
theorem snd_o {n : Nat} (IH : SE T Γ ce k n) (g : GoodC T Γ ce sc fo k E X) {e : Option Expr} {o : Exo} (h : cO (cE ce n sc) e = some o) : PO X e (lO T X.K (wpO Γ o E)) := by
  cases e with
  | none => cases h; exact qo_none
  | some e =>
    simp only [cO, Option.map_eq_some_iff] at h
    obtain ⟨x, hx, rfl⟩ := h
    exact qo_some (IH sc e x hx fo E X g).1
theorem snd_b {n : Nat} (IH : SE T Γ ce k n) (g : GoodC T Γ ce sc fo k E X) {op : BoolOp} {pos : Pos} : ∀ {es : List Expr} {ir : Ex}, cB (cE ce n sc) op es = some ir → QE T X (.BoolOp op es pos) (wpE Γ ir E) ∧ QW T X (.BoolOp op es pos) (tstU (wpE Γ ir E))
  | [], ir, h => by cases h
  | [e], ir, h => by
    obtain ⟨h1, h2⟩ := IH sc e ir h fo E X g
    refine ⟨q_one h1, ?_⟩
    cases op with
    | And => exact qw_and1 h2
    | Or => exact qw_or1 h2
  | e :: e2 :: es, ir, h => by
    simp only [cB, Option.bind_eq_some_iff] at h
    obtain ⟨x, hx, r, hr, h⟩ := h
    cases h
    obtain ⟨h1, h2⟩ := IH sc e x hx fo E X g
    obtain ⟨h3, h4⟩ := snd_b IH g (op := op) (pos := pos) (es := e2 :: es) hr
    cases op with
    | And => exact ⟨q_and h1 h3, qw_and h2 h4⟩
    | Or => exact ⟨q_or h1 h3, qw_or h2 h4⟩
end
end Y

namespace Y
open PySem PySem.Spec PyProof.Rows L2
section
variable {T : Tb} {Γ : Gm} {ce : CE} {sc : Scope} {fo : Str → Bool} {k : Nat} {E : XS} {X : Cx}
theorem cT_star {n : Nat} {e : Expr} {t : Tg} (h : cT ce sc fo n e = some t) (es : List Expr) (env : Env) : assignEach (e :: es) env = (false, assign e env) :: assignEach es env := by
  cases n with
  | zero => cases h
  | succ n => cases e <;> first
    | rfl
    | (simp only [cT] at h; cases h)
theorem cTs_plain {n : Nat} {env : Env} : ∀ {es : List Expr} {ts : List Tg}, cT.cTs (cT ce sc fo n) es = some ts → (assignEach es env).length = lenT ts ∧ (assignEach es env).findIdx? (·.1) = none
  | [], ts, h => by cases h; exact ⟨rfl, rfl⟩
  | e :: es, ts, h => by
    simp only [cT.cTs, Option.bind_eq_some_iff] at h
    obtain ⟨x, hx, r, hr, h⟩ := h
    cases h
    obtain ⟨h1, h2⟩ := cTs_plain (env := env) hr
    rw [cT_star hx es env]
    refine ⟨by rw [List.length_cons, h1, lenT], ?_⟩
    rw [List.findIdx?_cons]
    simp [h2]
theorem st_loc (g : GoodC T Γ ce sc fo k E X) {x : Str} (h : stOk sc fo x = true) : Loc X.env.scope x ∧ (X.fn x = true ∨ X.env.scope.names.lookup x = some .local) := by
  unfold stOk at h
  rw [g.eS]
  split at h
  · rename_i hk; exact ⟨.inl hk, .inr hk⟩
  · rename_i hk; exact ⟨.inr hk, .inl (g.eF x h)⟩
  · cases h
mutual
theorem snd_t (g : GoodC T Γ ce sc fo k E X) : ∀ {n : Nat} {e : Expr} {t : Tg}, cT ce sc fo n e = some t → PG X e (gV X.K t)
  | 0, e, t, h => by cases h
  | n + 1, e, t, h => by
    unfold cT at h
    split at h
    · rename_i x pos
      split at h
      · rename_i hs
        rw [Option.map_eq_some_iff] at h
        obtain ⟨i, hi, rfl⟩ := h
        obtain ⟨h1, h2⟩ := st_loc g hs
        unfold gV
        exact pg_name (by rw [g.eN]; exact g.nd) (by rw [g.eN]; exact ixS_get hi) h1 h2
      · cases h
    · rename_i es kk pos
      rw [Option.map_eq_some_iff] at h
      obtain ⟨ts, hts, rfl⟩ := h
      obtain ⟨h1, h2⟩ := cTs_plain (env := X.env) hts
      unfold gV
      exact pg_tup g.calm (snd_ts g hts) h1 h2
    · cases h
theorem snd_ts (g : GoodC T Γ ce sc fo k E X) : ∀ {n : Nat} {es : List Expr} {ts : List Tg}, cT.cTs (cT ce sc fo n) es = some ts → PGs X es (gsV X.K ts)
  | n, [], ts, h => by cases h; unfold gsV; exact pgs_nil
  | n, e :: es, ts, h => by
    simp only [cT.cTs, Option.bind_eq_some_iff] at h
    obtain ⟨x, hx, r, hr, h⟩ := h
    cases h
    unfold gsV
    exact pgs_cons (snd_t g hx) (snd_ts g hr) (by rw [cT_star hx es X.env]; rfl)
end
theorem snd_i {n : Nat} (IH : SE T Γ ce k n) (g : GoodC T Γ ce sc fo k E X) {tg e : Expr} {i : It'} (h : cI ce (cE ce n sc) sc tg e = some i) : PI X tg e (lI T X.K (wpI Γ i E)) := by
  have gl : ∀ {x : Str}, isGl sc x = true → Gl X x := fun {x} hg => by
    show X.env.scope.names.lookup x = _
    rw [g.eS]
    exact beq_iff_eq.mp hg
  have ex : ∀ {e : Expr}, (cE ce n sc e).map It'.ex = some i → PI X tg e (lI T X.K (wpI Γ i E)) := fun {e} h => by
    rw [Option.map_eq_some_iff] at h
    obtain ⟨x, hx, rfl⟩ := h
    exact qi_seq (IH sc e x hx fo E X g).1
  unfold cI at h
  split at h
  · split at h
    · rename_i hc
      rw [Bool.and_eq_true, Bool.and_eq_true, decide_eq_true_eq] at hc
      obtain ⟨⟨rfl, hg⟩, hb⟩ := hc
      rw [Option.map_eq_some_iff] at h
      obtain ⟨x, hx, rfl⟩ := h
      exact qi_rng1 (gl hg) (g.mf.blt _ hb) (IH sc _ x hx fo E X g).1 (cE_star hx [] X.env)
    · split at h
      · rename_i hc
        rw [Bool.and_eq_true, Bool.and_eq_true, Bool.and_eq_true, decide_eq_true_eq] at hc
        obtain ⟨⟨⟨rfl, hg⟩, hb⟩, ht⟩ := hc
        rw [Option.map_eq_some_iff] at h
        obtain ⟨x, hx, rfl⟩ := h
        cases tg <;> first
          | (cases ht; done)
          | exact qi_enm (gl hg) (g.mf.blt _ hb) (IH sc _ x hx fo E X g).1 (cE_star hx [] X.env)
      · exact ex h
  · split at h
    · rename_i hc
      rw [Bool.and_eq_true, Bool.and_eq_true, decide_eq_true_eq] at hc
      obtain ⟨⟨rfl, hg⟩, hb⟩ := hc
      simp only [Option.bind_eq_some_iff] at h
      obtain ⟨x, hx, y, hy, h⟩ := h
      cases h
      have s2 := cE_star hy [] X.env
      exact qi_rng2 (gl hg) (g.mf.blt _ hb) (IH sc _ x hx fo E X g).1 (IH sc _ y hy fo E X g).1 (by rw [cE_star hx, s2]; rfl) s2
    · split at h
      · rename_i hc
        rw [Bool.and_eq_true, Bool.and_eq_true, Bool.and_eq_true, decide_eq_true_eq] at hc
        obtain ⟨⟨⟨rfl, hg⟩, hb⟩, ht⟩ := hc
        simp only [Option.bind_eq_some_iff] at h
        obtain ⟨x, hx, y, hy, h⟩ := h
        cases h
        have s2 := cE_star hy [] X.env
        cases tg <;> first
          | (cases ht; done)
          | exact qi_zp (gl hg) (g.mf.blt _ hb) (IH sc _ x hx fo E X g).1 (IH sc _ y hy fo E X g).1 (cE_star hx _ X.env) s2
      · exact ex h
  · exact ex h
theorem PTsi {X : Cx} {e : List Expr} {t t' : TT} (h : PTs X e t') (i : ∀ σ H Q, t σ H Q → t' σ H Q) : PTs X e t := ⟨fun pins s σ H Q I q => h.run pins s σ H Q I (i σ H Q q)⟩
/-- within a comprehension -/
theorem good_blk (g : GoodC T Γ ce sc fo k E X) {scope : Scope} {s : Shared} {H : Hp} {cl : List (Str × Addr)} {C : Addr} {fp : List Addr} (hk : scope.kind = .function) : GoodC T Γ ce (relS scope sc) (cellOf scope) k E0U (X.blk s H scope (compEnvC scope cl C X.env) fp) where
  eN := g.eN
  eS := by
    show relabel scope X.env = relS scope sc
    rw [← g.eS]
    rfl
  eK := hk
  eF := fun x h => h
  nd := g.nd
  calm := g.calm
  room := g.room
  pass := PassesOwn.never
  tk := fun u s' ⟨_, _, _, _, _, _, _, _, _, _, _, _, _, _, _, _, w⟩ => by
    obtain ⟨_, _, _, _, _, _, _, _, z⟩ := w
    exact z.elim
  mf := g.mf
theorem qt_ite {a b c : Expr} {ta tb tc : TEU} {pos : Pos} (hc : QT T X c (tstU tc)) (ha : QT T X a (tstU ta)) (hb : QT T X b (tstU tb)) : QT T X (.IfExp c a b pos) (tstU (iteU tc ta tb)) := by
  refine ⟨fun pins s σv H Qv I h => ?_⟩
  obtain ⟨σ, G, Q, rs, ab, h, q⟩ := h
  show wpAny _ _ (PySem.isTrue (.IfExp c a b pos) X.env _) _ _ _
  unfold PySem.isTrue
  refine wpAny_bind (thn (hc.run pins s σv H _ I ⟨σ, G, fun kk G1 => if kk = true then tstU ta σ G1 Q else tstU tb σ G1 Q, rs, ab, ?_, fun _ _ z => z⟩) fun d s1 ⟨H1, I1, G1, t1, ab1, h1⟩ => ?_)
  · exact h
  · cases d with
    | true => exact ha.run pins s1 σv H1 Qv I1 ⟨σ, G1, Q, rs.mono t1, ab1, h1, fun v H' z => q v H' (z.from t1)⟩
    | false => exact hb.run pins s1 σv H1 Qv I1 ⟨σ, G1, Q, rs.mono t1, ab1, h1, fun v H' z => q v H' (z.from t1)⟩
theorem snd_lc {n : Nat} (IH : SE T Γ ce k n) (g : GoodC T Γ ce sc fo k E X) {elt tg iter : Expr} {ifs : List Expr} {scope : Scope} {pos : Pos} {x : Ex} {t : Tg} {it : It'} {c : Exo} (hk : blkC ce.N sc scope (ownOf ce.N scope) = true) (hx : cE ce n (relS scope sc) elt = some x)
    (ht : cT ce (relS scope sc) (cellOf scope) n tg = some t) (hi : cI ce (cE ce n sc) sc tg iter = some it) (hc : cIfs (cE ce n (relS scope sc)) ifs = some c) (ho : (slotsT t).all (fun i => (ownI ce.N scope).contains i) = true) :
    (∃ (hg : ∀ (s : Shared) (H : Hp) (C : Addr) (cl : List (Str × Addr)) (fp : List Addr), PG (X.blk s H scope (compEnvC scope cl C X.env) fp) tg (gV X.K t)) (ht : ∀ (s : Shared) (H : Hp) (C : Addr) (cl : List (Str × Addr)) (fp : List Addr), PTs (X.blk s H scope (compEnvC scope cl C X.env) fp) ifs (lT T X.K (wpC Γ c)))
      (he : ∀ (s : Shared) (H : Hp) (C : Addr) (cl : List (Str × Addr)) (fp : List Addr), PE (X.blk s H scope (compEnvC scope cl C X.env) fp) elt (lE T X.K (wpE Γ x E0U))), BlkOk X.N X.env.scope scope (ownOf ce.N scope)) ∧ ∀ i ∈ slotsT t, i ∈ ownI ce.N scope := by
  have ok : BlkOk X.N X.env.scope scope (ownOf ce.N scope) := by
    rw [g.eN, g.eS]
    exact blkOk_by hk
  refine ⟨⟨fun s H C cl fp => snd_t (good_blk g ok.kind) ht, fun s H C cl fp => ?_, fun s H C cl fp => (IH _ elt x hx _ E0U _ (good_blk g ok.kind)).1, ok⟩, fun i hi => ?_⟩
  · unfold cIfs at hc
    split at hc
    · cases hc
      exact PTsi pts_nil fun σv H Qv h => by
        obtain ⟨σ, G, Q, rs, ab, h, q⟩ := h
        exact q _ _ ⟨G, TL.refl _, ab, h⟩
    · rename_i cc
      rw [Option.map_eq_some_iff] at hc
      obtain ⟨y, hy, rfl⟩ := hc
      exact pts_one (IH _ cc y hy _ E0U _ (good_blk g ok.kind)).2
    · cases hc
  · rw [List.all_eq_true] at ho
    simpa using ho i hi
theorem snd_E : ∀ n : Nat, SE T Γ ce k n
  | 0 => fun sc e ir h => by cases h
  | n + 1 => fun sc e ir h fo E X g => by
    have IH : SE T Γ ce k n := snd_E n
    have hu : X.A.units + 64 < cLine := g.room.units
    have one : ∀ {e : Expr} {x : Ex}, cE ce n sc e = some x → QE T X e (wpE Γ x E) := fun {e x} hx => (IH sc e x hx fo E X g).1
    have tst : ∀ {e : Expr} {x : Ex}, cE ce n sc e = some x → QT T X e (tstU (wpE Γ x E)) := fun {e x} hx => (IH sc e x hx fo E X g).2
    have plain : ∀ {ir : Ex}, (∀ whole, PySem.isTrue e X.env whole = (do let v ← whole; standAt e.pos; holding [v] (truthy v))) → QE T X e (wpE Γ ir E) → QE T X e (wpE Γ ir E) ∧ QT T X e (tstU (wpE Γ ir E)) := fun he q => ⟨q, qt_val q he⟩
    unfold cE at h
    split at h
    · exact plain (fun _ => rfl) (snd_name g h)
    · exact plain (fun _ => rfl) (snd_const h)
    · simp only [Option.bind_eq_some_iff] at h
      obtain ⟨x, hx, y, hy, h⟩ := h
      cases h
      exact plain (fun _ => rfl) (q_op (opl_bin _) (one hx) (one hy))
    · rw [Option.map_eq_some_iff] at h
      obtain ⟨x, hx, rfl⟩ := h
      exact plain (fun _ => rfl) (q_neg (one hx))
    · rw [Option.map_eq_some_iff] at h
      obtain ⟨x, hx, rfl⟩ := h
      exact ⟨q_not (one hx), qt_not (tst hx)⟩
    · simp only [Option.bind_eq_some_iff] at h
      obtain ⟨x, hx, y, hy, h⟩ := h
      cases h
      exact ⟨q_cmp (opl_cmp hu _) (one hx) (one hy) (marks_of (cE_notSet hy)), qt_cmp (opl_cmp hu _) (one hx) (one hy) (marks_of (cE_notSet hy))⟩
    · simp only [Option.bind_eq_some_iff] at h
      obtain ⟨x, hx, y, hy, z, hz, h⟩ := h
      cases h
      have hm : ∀ (op op' : CmpOp) (b c : Expr), notSet c = true → lastMarks [op, op'] [b, c] = false := fun op op' b c hc => marks_of hc
      exact ⟨q_chn (opl_cmp hu _) (opl_cmp hu _) (one hx) (one hy) (one hz) (hm _ _ _ _ (cE_notSet hz)), qt_chn (opl_cmp hu _) (opl_cmp hu _) (one hx) (one hy) (one hz) (hm _ _ _ _ (cE_notSet hz))⟩
    · obtain ⟨h1, h2⟩ := snd_b IH g h
      exact ⟨h1, h2.pt⟩
    · simp only [Option.bind_eq_some_iff] at h
      obtain ⟨z, hz, x, hx, y, hy, h⟩ := h
      cases h
      exact ⟨q_ite (tst hz) (one hx) (one hy), qt_ite (tst hz) (tst hx) (tst hy)⟩
    · simp only [Option.bind_eq_some_iff] at h
      obtain ⟨x, hx, l, hl, u, hu', h⟩ := h
      cases h
      exact plain (fun _ => rfl) (q_slc (one hx) (snd_o IH g hl) (snd_o IH g hu'))
    · simp only [Option.bind_eq_some_iff] at h
      obtain ⟨x, hx, y, hy, h⟩ := h
      cases h
      exact plain (fun _ => rfl) (q_ix (Nat.lt_of_le_of_lt (Nat.add_le_add_left (by decide : 1 ≤ 64) _) hu) (one hx) (one hy) (plainIx_of (cE_notSet hy)))
    · rw [Option.map_eq_some_iff] at h
      obtain ⟨r, hr, rfl⟩ := h
      exact plain (fun _ => rfl) (q_tup (snd_es IH g hr))
    · rw [Option.map_eq_some_iff] at h
      obtain ⟨r, hr, rfl⟩ := h
      exact plain (fun _ => rfl) (q_lst (snd_es IH g hr))
    · cases h
      exact plain (fun _ => rfl) q_emp
    · rename_i x p es pos
      split at h
      · rename_i hc
        rw [Bool.and_eq_true] at hc
        have hg : Gl X x := by
          show X.env.scope.names.lookup x = _
          rw [g.eS]
          exact beq_iff_eq.mp hc.1
        have hd : (x == ("__debug__" : Str)) = false := by
          have h2 := hc.2
          unfold dbg at h2
          rw [Bool.not_eq_true', Bool.or_eq_false_iff] at h2
          exact h2.1
        split at h
        · rename_i f hf
          rw [Option.map_eq_some_iff] at h
          obtain ⟨r, hr, rfl⟩ := h
          obtain ⟨fa, hm, F⟩ := g.mf.fn x f hf
          cases es with
          | nil =>
            cases hr
            exact plain (fun _ => rfl) (q_call0 F g.room g.tk hg hm hd)
          | cons e1 es =>
            have hr' := hr
            simp only [cEs, Option.bind_eq_some_iff] at hr'
            obtain ⟨x1, hx1, r1, hr1, _⟩ := hr'
            exact plain (fun _ => rfl) (q_call F g.room g.tk hg hm hd (snd_es IH g hr) (cE_star hx1 es X.env) (cEs_plain hr1).1)
        · split at h
          · rename_i pc hp
            obtain ⟨c, f⟩ := pc
            rw [Option.map_eq_some_iff] at h
            obtain ⟨r, hr, rfl⟩ := h
            obtain ⟨hm, N⟩ := g.mf.cls x c f hp
            cases es with
            | nil =>
              cases hr
              exact plain (fun _ => rfl) (q_new0 N g.room g.tk hg hm hd)
            | cons e1 es =>
              have hr' := hr
              simp only [cEs, Option.bind_eq_some_iff] at hr'
              obtain ⟨x1, hx1, r1, hr1, _⟩ := hr'
              exact plain (fun _ => rfl) (q_new N g.room g.tk hg hm hd (snd_es IH g hr) (cE_star hx1 es X.env) (cEs_plain hr1).1)
          split at h
          · rename_i hb
            rw [Bool.and_eq_true] at hb
            simp only [Option.bind_eq_some_iff, Option.map_eq_some_iff] at h
            obtain ⟨b, hbi, r, hr, rfl⟩ := h
            have e := biOf_nm hbi
            subst e
            cases es with
            | nil => exact absurd hb.2 (by simp)
            | cons e1 es =>
              have hr' := hr
              simp only [cEs, Option.bind_eq_some_iff] at hr'
              obtain ⟨x1, hx1, r1, hr1, _⟩ := hr'
              exact plain (fun _ => rfl) (q_blt g.calm hg (g.mf.blt _ hb.1) (snd_es IH g hr) (cE_star hx1 es X.env) (cEs_plain hr1).1)
          · cases h
      · cases h
    · rename_i o f pos
      split at h
      · rename_i hc
        simp only [Option.bind_eq_some_iff, Option.map_eq_some_iff] at h
        obtain ⟨p, hp, x, hx, rfl⟩ := h
        obtain ⟨nn, cs⟩ := p
        obtain ⟨rfl, ok⟩ := g.mf.fld f nn cs hp
        exact plain (fun _ => rfl) (q_att ok (one hx) (base_of hc))
      · cases h
    · rename_i ks vs pos _
      split at h
      · rename_i hc
        rw [Bool.and_eq_true, decide_eq_true_eq] at hc
        rw [Option.map_eq_some_iff] at h
        obtain ⟨r, hr, rfl⟩ := h
        exact plain (fun _ => rfl) (q_dsp (snd_pr IH g hr) (fun e => by rw [e] at hc; simp at hc) hc.1)
      · cases h
    · rename_i o m apos es pos
      split at h
      · rename_i hc
        rw [Bool.and_eq_true, Bool.and_eq_true, decide_eq_true_eq, decide_eq_true_eq] at hc
        have hl : (apos.endLine == pos.line) = true := by rw [hc.1.1]; exact beq_self_eq_true _
        split at h
        · rename_i p hp
          obtain ⟨nn, tbl⟩ := p
          obtain ⟨rfl, ok⟩ := g.mf.mth m nn tbl hp
          simp only [Option.bind_eq_some_iff, Option.map_eq_some_iff] at h
          obtain ⟨x, hx, r, hr, rfl⟩ := h
          cases es with
          | nil =>
            cases hr
            exact plain (fun _ => rfl) (q_mth0 ok g.room g.tk (one hx) (base_of hc.2) hl)
          | cons e1 es =>
            have hr' := hr
            simp only [cEs, Option.bind_eq_some_iff] at hr'
            obtain ⟨x1, hx1, r1, hr1, _⟩ := hr'
            refine plain (fun _ => rfl) (q_mth ok g.room g.tk (one hx) (snd_es IH g hr) (base_of hc.2) ?_ hl (cE_star hx1 es X.env) (cEs_plain hr1).1)
            unfold methodCallForm
            rw [(cEs_plain hr).2]
            have h20 := hc.1.2
            show (true && true && decide ((e1 :: es).length + 0 < 30)) = true
            rw [decide_eq_true (by omega)]
            rfl
        split at h
        · cases h
        rename_i hne
        cases es with
        | nil => exact absurd rfl hne
        | cons e1 es =>
        simp only [Option.bind_eq_some_iff, Option.map_eq_some_iff] at h
        obtain ⟨b, hb, x, hx, r, hr, rfl⟩ := h
        have e := bmOf_nm hb
        subst e
        have hr' := hr
        simp only [cEs, Option.bind_eq_some_iff] at hr'
        obtain ⟨x1, hx1, r1, hr1, _⟩ := hr'
        refine plain (fun _ => rfl) (q_btm (one hx) (snd_es IH g hr) (base_of hc.2) ?_ hl (cE_star hx1 es X.env) (cEs_plain hr1).1)
        rw [(cEs_plain hr).2]
        have : (e1 :: es).length + ([] : List Keyword).length + (if ([] : List Keyword).isEmpty then 0 else 1) < 30 := by
          simp only [List.length_cons, List.length_nil, List.isEmpty_nil, if_true]
          have h20 := hc.1.2
          rw [List.length_cons] at h20
          omega
        rw [decide_eq_true this]
        rfl
      · cases h
    · rename_i elt tg iter ifs scope pos
      split at h
      · rename_i hk
        simp only [Option.bind_eq_some_iff] at h
        obtain ⟨x, hx, t, ht, it, hi, c, hc, h⟩ := h
        split at h
        · rename_i ho
          cases h
          obtain ⟨⟨hg, htt, he, ok⟩, hown⟩ := snd_lc IH g (pos := pos) hk hx ht hi hc ho
          exact plain (fun _ => rfl) (PEi (pe_lc g.calm (by rw [g.eN]; exact g.nd) (snd_i IH g hi) ok hg htt he (fun x => fold_of (cI_notSet hi) X.env x)) (lc_below hown))
        · cases h
      · cases h
    · cases h
end
end Y

namespace Y
open PySem PySem.Spec PyProof.Rows L2
section
variable {T : Tb} {Γ : Gm} {ce : CE} {sc : Scope} {fo : Str → Bool} {k : Nat} {E : XS} {X : Cx}
def isLc : Expr → Bool
  | .ListComp _ _ _ _ => true
  | _ => false
theorem sw_of {n : Nat} {e : Expr} {x : Ex} {t : Option Expr} {l : Nat} {env : Env} (h : cE ce n sc e = some x) (hl : isLc e = false) : swapsWith e t l env = pure false := by
  cases n with
  | zero => cases h
  | succ n => cases e <;> first
    | rfl
    | exact Bool.noConfusion hl
    | (simp only [cE] at h; cases h)
theorem sws_of {tg e : Expr} {env : Env} (h : isTp e = false) : swappedStores [tg] e env = pure none := by
  cases e <;> first
    | exact Bool.noConfusion h
    | (cases tg <;> rfl)
theorem sw_any {n : Nat} {e t : Expr} {x : Ex} {l : Nat} {env : Env} (h : cE ce n sc e = some x) (ht : ∀ a b, t ≠ .Name a b) : swapsWith e (some t) l env = pure false := by
  cases n with
  | zero => cases h
  | succ n =>
    have hl : isLc e = false → swapsWith e (some t) l env = pure false := fun hl => sw_of h hl
    cases e <;> first
      | exact hl rfl
      | skip
    cases t <;> first
      | exact absurd rfl (ht _ _)
      | rfl
theorem sws_long {ts es : List Expr} {k k2 : Nat} {p p2 : Pos} {env : Env} (h : 4 ≤ ts.length) : swappedStores [.Tuple ts k p] (.Tuple es k2 p2) env = pure none := by
  have e1 : (ts.length == 2 || ts.length == 3) = false := by
    rw [Bool.or_eq_false_iff]
    exact ⟨beq_eq_false_iff_ne.mpr (by omega), beq_eq_false_iff_ne.mpr (by omega)⟩
  unfold swappedStores
  simp only [e1, Bool.not_false, Bool.true_or, if_true]
theorem sws_sub {o i e : Expr} {p : Pos} {env : Env} : swappedStores [.Subscript o i p] e env = pure none := by
  cases e <;> rfl
theorem asg_sub {o i : Expr} {p : Pos} {env : Env} (h : notSet i = true) (v : Value) : assign (.Subscript o i p) env v = (do
      let ov ← holding [v] (eval o env)
      let iv ← holding [v, ov] (eval i env)
      standAt p
      holding [v, ov, iv] (setItem ov iv v)
      release [v, ov, iv] []) := by
  cases i <;> first
    | rfl
    | cases h
theorem sws_name {x : Str} {p : Pos} {e : Expr} {env : Env} : swappedStores [.Name x p] e env = pure none := by
  cases e <;> rfl
theorem noStar (a : Expr) : ((match a with | .Starred .. => true | _ => false) = true) → notSet a = true → False := by
  cases a <;> first
    | exact fun z _ => Bool.noConfusion z
    | exact fun _ z => Bool.noConfusion z
theorem sws_par {x y : Str} {px py pt pt2 : Pos} {kt k2 : Nat} {a b : Expr} {env : Env} {n m : Nat} {p q : Ex} (ha : cE ce n sc a = some p) (hb : cE ce m sc b = some q) (hk : env.scope.kind = .function) (hx : env.scope.names.lookup x = some .local) (hy : env.scope.names.lookup y = some .local)
    (hl : px.line = py.line) (ne : x ≠ y) (hf : (foldedForSure 8 a && foldedForSure 8 b) = false) (hc : (constantsAlone 8 a && constantsAlone 8 b) = false) :
    swappedStores [.Tuple [.Name x px, .Name y py] kt pt] (.Tuple [a, b] k2 pt2) env = pure (some [x, y]) := by
  have kx : env.kindOf x = some .local := hx
  have ky : env.kindOf y = some .local := hy
  have hbk : env.blockKind = .function := by unfold Env.blockKind; rw [hk]; rfl
  have ne' : (y == x) = false := beq_eq_false_iff_ne.mpr (Ne.symm ne)
  unfold swappedStores
  simp only [List.length_cons, List.length_nil, hbk, List.any_cons, List.any_nil, List.head?_cons, Option.map_some, Option.getD_some, Expr.pos, List.filterMap_cons, List.filterMap_nil, kx, ky, hl, List.all_cons, List.all_nil]
  have e1 : (some NameKind.local == some NameKind.local && py.line == py.line) = true := by simp
  have e2 : ([x, y] : List Str).eraseDups.length = 2 := by
    rw [List.eraseDups_cons]
    simp only [List.filter, ne', Bool.not_false, List.length_cons]
    rw [List.eraseDups_cons]
    rfl
  simp only [e1, if_true, e2, Bool.and_true, hf, hc]
  simp
  intro h
  exfalso
  rcases h with h | h
  · exact noStar a h (cE_notSet ha)
  · exact noStar b h (cE_notSet hb)
theorem lc_inv {n : Nat} {elt : Expr} {gs : List Comprehension} {scope : Scope} {lp : Pos} {y : Ex} (h : cE ce n sc (.ListComp elt gs scope lp) = some y) : ∃ m tg iter ifs x t it c, n = m + 1 ∧ gs = [⟨tg, iter, ifs, 0⟩] ∧ blkC ce.N sc scope (ownOf ce.N scope) = true ∧ cE ce m (relS scope sc) elt = some x ∧
    cT ce (relS scope sc) (cellOf scope) m tg = some t ∧ cI ce (cE ce m sc) sc tg iter = some it ∧ cIfs (cE ce m (relS scope sc)) ifs = some c ∧ (slotsT t).all (fun i => (ownI ce.N scope).contains i) = true ∧ y = .lc x (ownI ce.N scope) t it c := by
  cases n with
  | zero => cases h
  | succ m =>
    simp only [cE] at h
    split at h
    all_goals first
      | (rename_i heq; cases heq; done)
      | skip
    · rename_i elt tg iter ifs scope pos heq
      cases heq
      split at h
      · rename_i hk
        simp only [Option.bind_eq_some_iff] at h
        obtain ⟨x, hx, t, ht, it, hi, c, hc, h⟩ := h
        split at h
        · rename_i ho
          cases h
          exact ⟨m, tg, iter, ifs, x, t, it, c, rfl, rfl, hk, hx, ht, hi, hc, ho, rfl⟩
        · cases h
      · cases h
    · cases h
/-- what is shown of a statement -/
def SS (T : Tb) (Γ : Gm) (ce : CE) (sc : Scope) (fo : Str → Bool) (k n : Nat) : Prop := ∀ (s : Stmt) (ir : Sm), cS ce sc fo n s = some ir → ∀ (E : XS) (X : Cx), GoodC T Γ ce sc fo k E X → QS T X s (wpS Γ E ir)
theorem snd_Ss {n : Nat} (IH : SS T Γ ce sc fo k n) (g : GoodC T Γ ce sc fo k E X) : ∀ {ss : List Stmt} {irs : Sms}, cS.cSs (cS ce sc fo n) ss = some irs → QSs T X ss (wpSs Γ E irs)
  | [], irs, h => by cases h; exact q_nil
  | s :: ss, irs, h => by
    simp only [cS.cSs, Option.bind_eq_some_iff] at h
    obtain ⟨x, hx, r, hr, h⟩ := h
    cases h
    exact q_cons (IH s x hx E X g) (snd_Ss IH g hr)
theorem snd_S : ∀ n : Nat, SS T Γ ce sc fo k n
  | 0 => fun s ir h => by cases h
  | n + 1 => fun s ir h E X g => by
    have IH : SS T Γ ce sc fo k n := snd_S n
    have one : ∀ {e : Expr} {x : Ex}, cE ce n sc e = some x → QE T X e (wpE Γ x E) := fun {e x} hx => (snd_E n sc e x hx fo E X g).1
    have tst : ∀ {e : Expr} {x : Ex}, cE ce n sc e = some x → QT T X e (tstU (wpE Γ x E)) := fun {e x} hx => (snd_E n sc e x hx fo E X g).2
    have nd : X.N.Nodup := by rw [g.eN]; exact g.nd
    have at_ : ∀ {x : Str} {i : Nat}, ixS ce.N x = some i → X.N[i]? = some x := fun {x i} hi => by rw [g.eN]; exact ixS_get hi
    unfold cS at h
    split at h
    · cases h; exact q_pass
    · cases h; exact q_brk
    · cases h; exact q_cnt
    · cases h
    · rename_i e pos hne
      rw [Option.map_eq_some_iff] at h
      obtain ⟨x, hx, rfl⟩ := h
      refine q_expr (one hx) (sw_of hx ?_)
      cases e <;> first
        | rfl
        | exact (hne _ _ _ _ rfl).elim
    · cases h; exact q_retN
    · rw [Option.map_eq_some_iff] at h
      obtain ⟨x, hx, rfl⟩ := h
      exact q_ret (one hx)
    · simp only [Option.bind_eq_some_iff] at h
      obtain ⟨x, hx, p, hp, q, hq, h⟩ := h
      cases h
      exact q_if (tst hx) (snd_Ss IH g hp) (snd_Ss IH g hq)
    · simp only [Option.bind_eq_some_iff] at h
      obtain ⟨x, hx, p, hp, h⟩ := h
      cases h
      exact q_while g.pass (tst hx) (snd_Ss IH g hp)
    · simp only [Option.bind_eq_some_iff] at h
      obtain ⟨t, ht, i, hi, p, hp, h⟩ := h
      cases h
      exact q_for g.pass g.calm (snd_i (snd_E n) g hi) (snd_t g ht) (snd_Ss IH g hp) (fun x => fold_of (cI_notSet hi) X.env x)
    · rename_i x px elt gs scope lp pos
      split at h
      · rename_i hc
        rw [Bool.and_eq_true, Bool.and_eq_true, decide_eq_true_eq, decide_eq_true_eq] at hc
        simp only [Option.bind_eq_some_iff, Option.map_eq_some_iff] at h
        obtain ⟨i, hi, y, hy, rfl⟩ := h
        obtain ⟨m, tg, iter, ifs, x', t, it, c, rfl, rfl, hk, hx, ht, hi', hcc, ho, rfl⟩ := lc_inv hy
        obtain ⟨⟨hg, htt, he, ok⟩, hown⟩ := snd_lc (snd_E m) g (pos := lp) hk hx ht hi' hcc ho
        have hl : X.env.scope.names.lookup x = some .local := by rw [g.eS]; exact hc.1.1
        have hsw : swapsWith (.ListComp elt [⟨tg, iter, ifs, 0⟩] scope lp) (some (.Name x px)) pos.line X.env = pure true := by
          refine sw_true (by rw [g.eS]; exact g.eK) hl (by rw [hc.1.2]; exact beq_self_eq_true _) ?_
          have := hc.2
          rw [Bool.not_eq_true'] at this
          exact this
        exact PSi (ps_setLc g.calm nd (at_ hi) hl hsw (snd_i (snd_E m) g hi') ok hg htt he (fun x => fold_of (cI_notSet hi') X.env x)) fun D σv H h => by
          obtain ⟨σ, G, DU, rs, ab, h, hnx, hrt, hbk, hct⟩ := h
          refine lc_below (wi := wpI Γ it E) (tt := wpC Γ c) (te := wpE Γ x' E0U) hown σv H _ ⟨σ, G, fun y G' => DU.nx (σ.set i (some y)) G', rs, ab, h, fun v H' z => ?_⟩
          obtain ⟨y', G', t', ab', r', q'⟩ := z
          exact hnx _ _ ⟨_, G', t', ab', (rs.mono t').set i r', q'⟩
      · cases h
    · rename_i x px e pos hne
      split at h
      · rename_i hc
        simp only [Option.bind_eq_some_iff, Option.map_eq_some_iff] at h
        obtain ⟨i, hi, y, hy, rfl⟩ := h
        obtain ⟨h1, h2⟩ := st_loc g hc
        refine q_set nd (at_ hi) h1 (one hy) (sw_of hy ?_) h2
        cases e <;> first
          | rfl
          | exact (hne _ _ _ _ rfl).elim
      · cases h
    · rename_i x px y py kt pt a b k2 pt2 pos
      split at h
      · rename_i hc
        simp only [Bool.and_eq_true, decide_eq_true_eq, Bool.not_eq_true', decide_eq_false_iff_not] at hc
        obtain ⟨⟨⟨⟨⟨hx, hy⟩, hl⟩, ne⟩, hf⟩, hcn⟩ := hc
        simp only [Option.bind_eq_some_iff] at h
        obtain ⟨i, hi, j, hj, p, hp, q, hq, h⟩ := h
        split at h
        · cases h
        · rename_i nij
          cases h
          have sb := cE_star hq [] X.env
          exact q_par g.calm nd (at_ hi) (at_ hj) nij (by rw [g.eS]; exact hx) (by rw [g.eS]; exact hy) (one hp) (one hq) (cE_star hp [b] X.env) sb
            (sws_par hp hq (by rw [g.eS]; exact g.eK) (by rw [g.eS]; exact hx) (by rw [g.eS]; exact hy) hl ne hf hcn) rfl
      · cases h
    · rename_i ts kk pp e pos hne1
      split at h
      · rename_i es k2 p2
        split at h
        · rename_i h4
          simp only [Option.bind_eq_some_iff, Option.map_eq_some_iff] at h
          obtain ⟨t, ht, y, hy, rfl⟩ := h
          exact q_asg (one hy) (snd_t g ht) (by unfold swapsWithSole; exact sw_of hy rfl) (sws_long h4) (by rw [cT_star ht [] X.env]; rfl)
        · cases h
      · cases h
      · rename_i hn1 hn2
        simp only [Option.bind_eq_some_iff, Option.map_eq_some_iff] at h
        obtain ⟨t, ht, y, hy, rfl⟩ := h
        have l1 : isLc e = false := by
          cases e <;> first
            | rfl
            | exact (hn2 _ _ _ _ rfl).elim
        have l2 : isTp e = false := by
          cases e <;> first
            | rfl
            | exact (hn1 _ _ _ rfl).elim
        exact q_asg (one hy) (snd_t g ht) (by unfold swapsWithSole; exact sw_of hy l1) (sws_of l2) (by rw [cT_star ht [] X.env]; rfl)
    · rename_i o f pa e pos
      simp only [Option.bind_eq_some_iff, Option.map_eq_some_iff] at h
      obtain ⟨p, hp, x, hx, y, hy, rfl⟩ := h
      obtain ⟨nn, cs⟩ := p
      obtain ⟨rfl, ok⟩ := g.mf.fld f nn cs hp
      exact q_setA ok (one hx) (one hy) (sw_any hy fun _ _ z => by cases z)
    · rename_i o i pa e pos
      simp only [Option.bind_eq_some_iff, Option.map_eq_some_iff] at h
      obtain ⟨x, hx, j, hj, y, hy, rfl⟩ := h
      have hu : X.A.units + 64 < cLine := g.room.units
      exact q_setI (Nat.lt_of_le_of_lt (Nat.add_le_add_left (by decide : 1 ≤ 64) _) hu) (one hx) (one hj) (one hy) (asg_sub (cE_notSet hj)) (by unfold swapsWithSole; exact sw_any hy fun _ _ z => by cases z) sws_sub
    · cases h; exact q_rse
    · rename_i x px e pos
      split at h
      · rename_i hc
        simp only [Option.bind_eq_some_iff, Option.map_eq_some_iff] at h
        obtain ⟨i, hi, y, hy, rfl⟩ := h
        obtain ⟨h1, h2⟩ := st_loc g hc
        refine PSi (q_aug nd (at_ hi) h1 (one hy) h2) fun D σv H h => ?_
        obtain ⟨σ, G, DU, rs, ab, h, z⟩ := h
        refine ⟨σ, G, DU, rs, ab, ?_, z⟩
        unfold wpS at h
        split at h
        · rename_i u eu
          rw [eu]
          exact h.2
        · exact h.elim
      · cases h
    · cases h
end
/-! ### a def by its form -/
def startU (N : List Str) (us : List U) : SU := us.map some ++ List.replicate (N.length - us.length) none
theorem start_RS {T : Tb} {K : PySem.W.Frag} {H : Hp} {N : List Str} {us : List U} {vs : List V} (r : RUs T K H us vs) : RS T K H (startU N us) (L2.start N vs) := by
  unfold startU L2.start
  refine ⟨by simp [r.length], fun i u e => ?_⟩
  by_cases hi : i < us.length
  · rw [List.getElem?_append_left (by simpa using hi), List.getElem?_map] at e
    cases h : us[i]? with
    | none => rw [h] at e; cases e
    | some w =>
      rw [h] at e
      cases e
      obtain ⟨v, hv, rv⟩ := r.get h
      refine ⟨v, ?_, rv⟩
      rw [List.getElem?_append_left (by rw [List.length_map, ← r.length]; exact hi), List.getElem?_map, hv]
      rfl
  · rw [List.getElem?_append_right (by simpa using hi), List.getElem?_replicate] at e
    split at e <;> cases e
def DF (Q : UK) : EU := { nx := fun _ G' => ∃ G2, Sub G2 G' ∧ Q .non G2, rt := fun u G' => ∃ G2, Sub G2 G' ∧ Q u G2 }
theorem fn_u {T : Tb} {Γ : Gm} {ce : CE} {P : Program} {w : World} {K : PySem.W.Frag} {mg : Str → Option Value} {base : Heap} {k n : Nat} {x qual : Str} {st : Stmt} {f : Addr} {fd : FuncData} {ps : List Str} {ir : Sms} {sp : SpU}
    (F : Fun K x qual st f fd) (S : FnScope ce.N ps (defScope st)) (hc : cS.cSs (cS ce (defScope st) (fun _ => true) n) (defBody st) = some ir) (mf : MF T Γ ce P w K mg base k)
    (h : ∀ us G Q E, us.length = ps.length → sp us G Q E → wpSs Γ (fun c fs _ G' => ∃ G2, Sub G2 G' ∧ E c fs G2) ir (DF Q) (startU ce.N us) G) : FnOk P w K mg base (L2.CX P w) (k + 1) f fd ps (lSp T K ps.length sp) := by
  obtain ⟨oc, od, kV, doc, pm, an, cdv, ct, osl, rfl, lk, hcd⟩ := F.ex
  refine fn_of lk hcd S (fun vs H Q E q => lSp_len vs H Q E q) fun A outer s H vs Qv Ev hr hsp => ?_
  obtain ⟨us, G, Q, E, hl, r, ab, hsp, hq, hx⟩ := hsp
  have tk0 : Takes (cxOf (L2.CX P w) P w K mg base ce.N qual (defScope st) f cdv A outer s H Ev) (fun cls d _ H => Ev cls d H) := takes_of rfl rfl rfl rfl
  have g : GoodC T Γ ce (defScope st) (fun _ => true) k (fun c fs _ G' => ∃ G2, Sub G2 G' ∧ E c fs G2) (cxOf (L2.CX P w) P w K mg base ce.N qual (defScope st) f cdv A outer s H Ev) := {
    eN := rfl
    eS := rfl
    eK := S.kind
    eF := fun _ _ => rfl
    nd := S.nd
    calm := rfl
    room := hr
    pass := passes_of rfl
    tk := fun u s' ⟨a, B, sI, pins, σ, H', cls, d, e, I, nb, up, sky, na, os, ag, w⟩ => by
      refine tk0 u s' ⟨a, B, sI, pins, σ, H', cls, d, e, I, nb, up, sky, na, os, ag, ?_⟩
      obtain ⟨c, fs, σu, G', ec, rs, ab', hd, G2, s2, he⟩ := w
      refine hx cls d H' ⟨c, fs, G2, ec, ⟨fun b xs z => ?_, fun b xs z => ?_⟩, ab'.sub s2, hd, he⟩
      · rcases z with z | z
        · exact .inl (I.base.tups b xs z)
        · exact .inr z
      · rcases z with ⟨o, z⟩ | z
        · exact .inl ⟨o, I.base.frzs b o _ z⟩
        · exact .inr z
    mf := mf }
  refine ⟨lS T K (wpSs Γ (fun c fs _ G' => ∃ G2, Sub G2 G' ∧ E c fs G2) ir), snd_Ss (snd_S n) g hc, ?_⟩
  refine ⟨startU ce.N us, G, DF Q, start_RS r, ab, h us G Q E hl hsp, fun σ' H' z => ?_, fun v H' z => ?_, fun σ' H' z => ?_, fun σ' H' z => ?_⟩
  · obtain ⟨σ1, G1, t1, ab1, rs1, G2, s2, q⟩ := z
    exact hq _ _ ⟨.non, G2, t1, ab1.sub s2, .non, q⟩
  · obtain ⟨y, G1, t1, ab1, r1, G2, s2, q⟩ := z
    exact hq _ _ ⟨y, G2, t1, ab1.sub s2, r1, q⟩
  · obtain ⟨σ1, G1, t1, ab1, rs1, q⟩ := z
    exact q.elim
  · obtain ⟨σ1, G1, t1, ab1, rs1, q⟩ := z
    exact q.elim
end Y

namespace Y
open PySem PySem.Spec PyProof.Rows L2
/-- a text by its codes -/
abbrev S (l : List Nat) : Str := ⟨l.toArray⟩
/-! ### the text's defs and their promises -/
def HasDef (K : PySem.W.Frag) (mg : Str → Option Value) (x : Str) (st : Stmt) : Prop := ∃ f fd, mg x = some (.ref f) ∧ Fun K x x st f fd
def FnA (T : Tb) (P : Program) (w : World) (K : PySem.W.Frag) (mg : Str → Option Value) (base : Heap) (k : Nat) (x : Str) (n : Nat) (sp : SpU) : Prop := ∃ f, mg x = some (.ref f) ∧ FnN T P w K mg base k f n sp
section
variable {T : Tb} {Γ : Gm} {ce : CE} {P : Program} {w : World} {K : PySem.W.Frag} {mg : Str → Option Value} {base : Heap} {k j n : Nat} {x : Str} {st : Stmt} {ps : List Str} {ir : Sms} {sp : SpU}
theorem FnA.mono (h : FnA T P w K mg base j x n sp) (l : j ≤ k) : FnA T P w K mg base k x n sp := by
  obtain ⟨f, hm, ⟨fd, ps, kp, hb, hn, F⟩⟩ := h
  exact ⟨f, hm, ⟨fd, ps, kp, hb, hn, F.mono l⟩⟩
theorem def_ok (d : HasDef K mg x st) (S : FnScope ce.N ps (defScope st)) (hc : cS.cSs (cS ce (defScope st) (fun _ => true) 40) (defBody st) = some ir)
    (hb : ∀ (kV doc pm : Value) (an : Option Addr) (cdv ct : Value) (us : List Value), us.length = ps.length → bindArgs (PySem.W.fnOf x x (defArgs st) (defBody st) (defScope st) .none kV doc pm an cdv ct) ⟨us, []⟩ = pure (ps.zip us))
    (mf : MF T Γ ce P w K mg base k) (h : ∀ us G Q E, us.length = ps.length → sp us G Q E → wpSs Γ (fun c fs _ G' => ∃ G2, Sub G2 G' ∧ E c fs G2) ir (DF Q) (startU ce.N us) G) : FnA T P w K mg base (k + 1) x ps.length sp := by
  obtain ⟨f, fd, hm, F⟩ := d
  exact ⟨f, hm, ⟨fd, ps, F.kp, F.binds hb, rfl, fn_u F S hc mf h⟩⟩
theorem lookup_mem' {α β : Type} [BEq α] [LawfulBEq α] : ∀ {l : List (α × β)} {y : α} {b : β}, l.lookup y = some b → (y, b) ∈ l
  | [], _, _, h => by cases h
  | (a, c) :: l, y, b, h => by
    rw [List.lookup_cons] at h
    split at h
    · rename_i e
      cases h
      rw [beq_iff_eq.mp e]
      exact List.mem_cons_self
    · exact List.mem_cons_of_mem _ (lookup_mem' h)
theorem lookup_mem {β : Type} {l : List (Str × β)} {y : Str} {b : β} (h : l.lookup y = some b) : (y, b) ∈ l := PySem.mem_of_lookup h
/-- a class, its fields, its methods -/
def ClsA (K : PySem.W.Frag) (a : Addr) (fs : List Str) : Prop := Cls K a ∧ ∀ f ∈ fs, NoAttr K a f
def HasMth (T : Tb) (K : PySem.W.Frag) (c n : Nat) (x qual : Str) (st : Stmt) : Prop := ∃ f fd, Cls K (T.cA c) ∧ Meth K (T.cA c) (T.nm n) f ∧ Fun K x qual st f fd
def HasIni (T : Tb) (K : PySem.W.Frag) (c : Nat) (x qual : Str) (st : Stmt) : Prop := ∃ f fd, Mk K (T.cA c) f ∧ Fun K x qual st f fd
theorem NewN.mono {c ar : Nat} (h : NewN T P w K mg base j c ar sp) (l : j ≤ k) : NewN T P w K mg base k c ar sp := by
  obtain ⟨i, f, rfl, M, ⟨fd, ps, kp, hb, hn, F⟩⟩ := h.ex
  exact ⟨k - 1, f, by omega, M, ⟨fd, ps, kp, hb, hn, F.mono (by omega)⟩⟩
theorem MthN.mono {c m ar : Nat} (h : MthN T P w K mg base j c m ar sp) (l : j ≤ k) : MthN T P w K mg base k c m ar sp := by
  obtain ⟨f, C, M, ⟨fd, ps, kp, hb, hn, F⟩⟩ := h.ex
  exact ⟨f, C, M, ⟨fd, ps, kp, hb, hn, F.mono l⟩⟩
theorem mth_ok {c m : Nat} {qual : Str} (d : HasMth T K c m x qual st) (S : FnScope ce.N ps (defScope st)) (hc : cS.cSs (cS ce (defScope st) (fun _ => true) 40) (defBody st) = some ir)
    (hb : ∀ (kV doc pm : Value) (an : Option Addr) (cdv ct : Value) (us : List Value), us.length = ps.length → bindArgs (PySem.W.fnOf x qual (defArgs st) (defBody st) (defScope st) .none kV doc pm an cdv ct) ⟨us, []⟩ = pure (ps.zip us))
    (mf : MF T Γ ce P w K mg base k) (h : ∀ us G Q E, us.length = ps.length → sp us G Q E → wpSs Γ (fun c fs _ G' => ∃ G2, Sub G2 G' ∧ E c fs G2) ir (DF Q) (startU ce.N us) G) : MthN T P w K mg base (k + 1) c m ps.length sp := by
  obtain ⟨f, fd, C, M, F⟩ := d
  exact ⟨f, C, M, ⟨fd, ps, F.kp, F.binds hb, rfl, fn_u F S hc mf h⟩⟩
theorem ini_ok {c : Nat} {qual : Str} (d : HasIni T K c x qual st) (S : FnScope ce.N ps (defScope st)) (hc : cS.cSs (cS ce (defScope st) (fun _ => true) 40) (defBody st) = some ir)
    (hb : ∀ (kV doc pm : Value) (an : Option Addr) (cdv ct : Value) (us : List Value), us.length = ps.length → bindArgs (PySem.W.fnOf x qual (defArgs st) (defBody st) (defScope st) .none kV doc pm an cdv ct) ⟨us, []⟩ = pure (ps.zip us))
    (mf : MF T Γ ce P w K mg base k) (h : ∀ us G Q E, us.length = ps.length → sp us G Q E → wpSs Γ (fun c fs _ G' => ∃ G2, Sub G2 G' ∧ E c fs G2) ir (DF Q) (startU ce.N us) G) : NewN T P w K mg base (k + 2) c ps.length sp := by
  obtain ⟨f, fd, M, F⟩ := d
  exact ⟨k + 1, f, rfl, M, ⟨fd, ps, F.kp, F.binds hb, rfl, fn_u F S hc mf h⟩⟩
theorem mf_mk (hf : ∀ p ∈ ce.fns, FnA T P w K mg base k p.1 (Γ.ar p.2) (Γ.fn p.2)) (hc : ∀ p ∈ ce.cons, ∃ v val, mg p.1 = some val ∧ L2.RelV v val ∧ ∀ H, RU T K H p.2 v) (hb : ∀ x ∈ ce.blt, mg x = none)
    (hk : ∀ p ∈ ce.cls, mg p.1 = some (.ref (T.cA p.2.1)) ∧ NewN T P w K mg base k p.2.1 (Γ.ar p.2.2) (Γ.fn p.2.2)) (hv : ∀ p ∈ ce.fld, T.nm p.2.1 = p.1 ∧ ∀ c ∈ p.2.2, Cls K (T.cA c) ∧ NoAttr K (T.cA c) (T.nm p.2.1))
    (ht : ∀ p ∈ ce.mts, T.nm p.2.1 = p.1 ∧ ∀ q ∈ p.2.2, MthN T P w K mg base k q.1 p.2.1 (Γ.ar q.2) (Γ.fn q.2)) : MF T Γ ce P w K mg base k :=
  ⟨fun x i e => hf (x, i) (lookup_mem e), fun x u e => hc (x, u) (lookup_mem e), fun x e => hb x (by simpa using e), fun x c f e => hk (x, c, f) (lookup_mem e), fun x n cs e => ⟨(hv (x, n, cs) (lookup_mem e)).1, fun c h => (hv (x, n, cs) (lookup_mem e)).2 c (by simpa using h)⟩,
    fun x n tbl e => ⟨(ht (x, n, tbl) (lookup_mem e)).1, fun c f h => (ht (x, n, tbl) (lookup_mem e)).2 (c, f) (lookup_mem' h)⟩⟩
theorem all_nil {α : Type} {p : α → Prop} : ∀ a ∈ ([] : List α), p a := fun _ h => nomatch h
theorem all_cons {α : Type} {p : α → Prop} {a : α} {l : List α} (h : p a) (t : ∀ b ∈ l, p b) : ∀ b ∈ a :: l, p b := fun b hb => by
  rcases List.mem_cons.mp hb with rfl | hb
  · exact h
  · exact t b hb
/-! ### constants of the module -/
theorem con_int {i : Int} {t : Tok} (h : mg x = some (.int i t)) : ∃ v val, mg x = some val ∧ L2.RelV v val ∧ ∀ H, RU T K H (.int i) v := ⟨.int i, _, h, ⟨t, rfl⟩, fun H => .int i⟩
theorem con_str {z : Str} {t : Tok} (h : mg x = some (.str z t)) : ∃ v val, mg x = some val ∧ L2.RelV v val ∧ ∀ H, RU T K H (.str z) v := ⟨.str z, _, h, ⟨t, rfl⟩, fun H => .str z⟩
theorem con_strs {zs : List Str} {a : Addr} {o : Obj} {its : Array Value} {m : Nat} (h : mg x = some (.ref a)) (l : K.lookup a = some o) (c : o.cls = .type "tuple") (d : o.data = .seq its m) (z : its.size ≤ sizeLine) (r : Vals (zs.map V.str) its.toList) :
    ∃ v val, mg x = some val ∧ L2.RelV v val ∧ ∀ H, RU T K H (.tup (zs.map U.str)) v := ⟨.ref a, _, h, rfl, fun H => .tup (.inr ⟨o, its, m, l, c, d, z, r⟩) (RUs.strs zs)⟩
end
/-! ### names by numbers -/
def nmL (l : List Str) (n : Nat) : Str := l.getD n ⟨Array.replicate (n + 100) 0⟩
theorem nmL_inj {l : List Str} (h : (l.all fun x => decide (x.cps.size < 100)) = true) (nd : l.Nodup) (a b : Nat) (e : nmL l a = nmL l b) : a = b := by
  have sm : ∀ i, i < l.length → (nmL l i).cps.size < 100 := fun i hi => by
    rw [List.all_eq_true] at h
    unfold nmL
    rw [List.getD_eq_getElem?_getD, List.getElem?_eq_getElem hi]
    exact of_decide_eq_true (h _ (List.getElem_mem hi))
  have bg : ∀ i, l.length ≤ i → (nmL l i).cps.size = i + 100 := fun i hi => by
    unfold nmL
    rw [List.getD_eq_getElem?_getD, List.getElem?_eq_none hi]
    simp
  by_cases ha : a < l.length
  · by_cases hb : b < l.length
    · unfold nmL at e
      rw [List.getD_eq_getElem?_getD, List.getD_eq_getElem?_getD, List.getElem?_eq_getElem ha, List.getElem?_eq_getElem hb] at e
      exact (List.getElem_inj nd).mp (by simpa using e)
    · have h1 := sm a ha
      have h2 := bg b (by omega)
      rw [e] at h1
      omega
  · by_cases hb : b < l.length
    · have h1 := sm b hb
      have h2 := bg a (by omega)
      rw [e] at h2
      omega
    · have h1 := bg a (by omega)
      have h2 := bg b (by omega)
      rw [e] at h1
      omega
/-! ### the walk, piece by piece -/
theorem Sub.self {G : Gp} {P : Gp → Prop} (h : P G) : ∃ G2, Sub G2 G ∧ P G2 := ⟨G, Sub.refl G, h⟩
end Y

namespace Y
open PySem PySem.Spec PyProof.Rows L2
/-! ### running comprehensions and loops -/
theorem lc_run {g : TGU} {tt : TTU} {te : TEU} {src : Gp → Prop} {D : Addr} {σ : SU} {Q : Gp → Prop} {G0 : Gp} (f : U → Option U) : ∀ (items acc : List U), (∀ l, src (put G0 D (.lst l))) →
    (∀ x ∈ items, ∀ (l : List U) (K : UK) (L : Gp → Prop), (match f x with | some y => K y (put G0 D (.lst l)) | none => L (put G0 D (.lst l))) → g x σ (put G0 D (.lst l)) fun σ2 G2 => tt σ2 G2 fun b G3 => if b = true then te σ2 G3 K else L G3) →
    acc.length + items.length ≤ sizeLine → Q (put G0 D (.lst (acc ++ items.filterMap f))) → lcU g tt te src D σ Q items acc (put G0 D (.lst acc))
  | [], acc, hs, _, _, q => by
    rw [List.filterMap_nil, List.append_nil] at q
    exact ⟨hs _, q⟩
  | x :: xs, acc, hs, hstep, hz, q => by
    refine ⟨hs _, hstep x List.mem_cons_self acc _ _ ?_⟩
    rw [List.length_cons] at hz
    cases e : f x with
    | none =>
      rw [List.filterMap_cons_none e] at q
      exact lc_run f xs acc hs (fun y hy => hstep y (List.mem_cons_of_mem _ hy)) (by omega) q
    | some y =>
      rw [List.filterMap_cons_some e] at q
      refine ⟨put_same, by omega, ?_⟩
      rw [put_put]
      refine lc_run f xs (acc ++ [y]) hs (fun y hy => hstep y (List.mem_cons_of_mem _ hy)) (by rw [List.length_append, List.length_singleton]; omega) ?_
      rw [List.append_assoc]
      exact q
/-- .. from its beginning, without a test -/
theorem lc_map {g : TGU} {te : TEU} {src : Gp → Prop} {D : Addr} {σ : SU} {Q : Gp → Prop} {G0 : Gp} (f : U → U) (items : List U) (hs : ∀ l, src (put G0 D (.lst l)))
    (hstep : ∀ x ∈ items, ∀ (l : List U) (K : UK), K (f x) (put G0 D (.lst l)) → g x σ (put G0 D (.lst l)) fun σ2 G2 => te σ2 G2 K) (hz : items.length ≤ sizeLine) (q : Q (put G0 D (.lst (items.map f)))) :
    lcU g (fun _ G K => K true G) te src D σ Q items [] (put G0 D (.lst [])) := by
  refine lc_run (fun x => some (f x)) items [] hs (fun x hx l K L h => ?_) (by simpa using hz) (by rw [List.filterMap_eq_map']; exact q)
  exact hstep x hx l K h
theorem blsU_map {α : Type} (p : α → Bool) : ∀ xs : List α, blsU (xs.map fun c => U.bl (p c)) = some (xs.map p)
  | [] => rfl
  | x :: xs => by simp only [List.map_cons, blsU, blsU_map p xs]
theorem strsU_map {α : Type} (p : α → Str) : ∀ xs : List α, strsU (xs.map fun c => U.str (p c)) = some (xs.map p)
  | [] => rfl
  | x :: xs => by simp only [List.map_cons, strsU, strsU_map p xs]
theorem intsU_map {α : Type} (p : α → Int) : ∀ xs : List α, intsU (xs.map fun c => U.int (p c)) = some (xs.map p)
  | [] => rfl
  | x :: xs => by simp only [List.map_cons, intsU, intsU_map p xs]
theorem lsG_put {G : Gp} {D : Addr} {xs : List U} : lsG (put G D (.lst xs) D) = some xs := by rw [put_same]; rfl
theorem datL_map {α : Type} {f : U → Option PyData} (p : α → U) (d : α → PyData) : ∀ xs : List α, (∀ x ∈ xs, f (p x) = some (d x)) → datL f (xs.map p) = some (xs.map d)
  | [], _ => rfl
  | x :: xs, h => by simp only [List.map_cons, datL, h x List.mem_cons_self, datL_map p d xs fun y hy => h y (List.mem_cons_of_mem _ hy)]
/-- a loop by what holds before each turn -/
theorem loop_inv {g : TGU} {b : TSU} {src : Gp → Prop} {D : EU} (items : List U) (Pv : Nat → SU → Gp → Prop) {σ : SU} {G : Gp} (h0 : Pv 0 σ G) (hs : ∀ i σ G, i ≤ items.length → Pv i σ G → src G)
    (ht : ∀ i x σ G, items[i]? = some x → Pv i σ G → ∀ nx : SU → Gp → Prop, (∀ σ' G', Pv (i + 1) σ' G' → nx σ' G') → g x σ G fun σ' G' => b { nx := nx, rt := D.rt, bk := D.nx, ct := nx } σ' G') (hd : ∀ σ G, Pv items.length σ G → D.nx σ G) :
    loopU g b src items D σ G := by
  have key : ∀ (n i : Nat) (σ : SU) (G : Gp), items.length - i = n → i ≤ items.length → Pv i σ G → loopU g b src (items.drop i) D σ G := by
    intro n
    induction n with
    | zero =>
      intro i σ G hn hi p
      have e : i = items.length := by omega
      subst e
      rw [List.drop_length]
      exact ⟨hs _ _ _ hi p, hd _ _ p⟩
    | succ n ih =>
      intro i σ G hn hi p
      have hlt : i < items.length := by omega
      rw [List.drop_eq_getElem_cons hlt]
      refine ⟨hs _ _ _ hi p, ht i items[i] σ G (List.getElem?_eq_getElem hlt) p _ fun σ' G' p' => ?_⟩
      exact ih (i + 1) σ' G' (by omega) hlt p'
  exact key _ 0 σ G rfl (Nat.zero_le _) h0
/-! ### lists of texts as data -/
def okS (z : Str) : Prop := ∀ c ∈ z.cps.toList, c < 1114112
theorem okS_bool {z : Str} (h : okS z) : PyData.strOk z = true := by
  unfold PyData.strOk
  rw [← Array.all_toList, List.all_eq_true]
  intro c hc
  exact decide_eq_true (h c hc)
theorem canLay_strs : ∀ zs : List Str, (∀ z ∈ zs, okS z) → PyData.canLayAll0 (zs.map PyData.str) = true
  | [], _ => rfl
  | z :: zs, h => by
    rw [List.map_cons, PyData.canLayAll0, PyData.canLay0, okS_bool (h z List.mem_cons_self), canLay_strs zs fun y hy => h y (List.mem_cons_of_mem _ hy)]
    rfl
theorem depth_strs : ∀ zs : List Str, PyData.depthAll (zs.map PyData.str) = 0
  | [] => rfl
  | z :: zs => by
    rw [List.map_cons, PyData.depthAll, depth_strs zs]
    rfl
theorem shaped_strs (zs : List Str) (h : ∀ z ∈ zs, okS z) : SeqAt.shaped (.list (zs.map PyData.str)) = true := by
  unfold SeqAt.shaped
  rw [PyData.canLay0, canLay_strs zs h, PyData.depth, depth_strs]
  rfl
theorem eqv_strs : ∀ as bs : List Str, PyData.eqv (.list (as.map PyData.str)) (.list (bs.map PyData.str)) = decide (as = bs)
  | [], [] => rfl
  | [], _ :: _ => rfl
  | _ :: _, [] => rfl
  | a :: as, b :: bs => by
    have ih := eqv_strs as bs
    rw [PyData.eqv] at ih ⊢
    rw [List.map_cons, List.map_cons, PyData.eqvAll, ih, PyData.eqv]
    by_cases e : a = b
    · subst e
      by_cases e2 : as = bs
      · subst e2; simp
      · simp [e2]
    · simp [e]
theorem dat_strs {n : Nat} {G : Gp} {a : Addr} {zs : List Str} (h : lsG (G a) = some (zs.map U.str)) : dat (n + 2) G (.ref a) = some (.list (zs.map PyData.str)) := by
  have e : datL (dat (n + 1) G) (zs.map U.str) = some (zs.map PyData.str) := datL_map _ _ zs fun x _ => rfl
  show (match lsG (G a) with
    | some xs => match datL (dat (n + 1) G) xs with
      | some ds => some (PyData.list ds)
      | none => none
    | none => none) = _
  rw [h]
  simp only [e]
/-- two lists of texts compared -/
theorem eq_strs {neg : Bool} {G : Gp} {a b : Addr} {as bs : List Str} {Q : UK} (ha : lsG (G a) = some (as.map U.str)) (hb : lsG (G b) = some (bs.map U.str)) (oa : ∀ z ∈ as, okS z) (ob : ∀ z ∈ bs, okS z) (q : Q (.bl (if neg then !decide (as = bs) else decide (as = bs))) G) : eqU neg (.ref a) (.ref b) G Q := by
  unfold eqU
  rw [if_neg (by simp [scU])]
  unfold eqD
  rw [dat_strs (n := 18) ha, dat_strs (n := 18) hb]
  refine ⟨shaped_strs as oa, shaped_strs bs ob, ?_⟩
  rw [eqv_strs]
  exact q
theorem tyU_int {G : Gp} {x : U} (h : tyU G x = some .int) : ∃ i, x = .int i := by
  cases x with
  | int i => exact ⟨i, rfl⟩
  | ref a =>
    simp only [tyU] at h
    split at h <;> cases h
  | _ => cases h
theorem tyU_str {G : Gp} {x : U} (h : tyU G x = some .str) : ∃ z, x = .str z := by
  cases x with
  | str z => exact ⟨z, rfl⟩
  | ref a =>
    simp only [tyU] at h
    split at h <;> cases h
  | _ => cases h
instance decPow (i j : Int) : Decidable (PowOk i j) := by unfold PowOk; infer_instance
instance decDiv (i j : Int) : Decidable (DivOk i j) := by unfold DivOk; infer_instance
theorem log_lt {n : Nat} (h : n < 2 ^ 400) : n.log2 < 400 := by
  by_cases e : n = 0
  · subst e; decide
  · exact (Nat.log2_lt e).mpr h
theorem mul_big {i j : Int} (hi : i.natAbs < 2 ^ 400) (hj : j.natAbs < 2 ^ 400) : MulOk i j := .inr (by
  have h1 := log_lt hi
  have h2 := log_lt hj
  unfold CMulW
  omega)
theorem mul_l {i j : Int} (h1 : -(2 ^ 64) < i) (h2 : i < 2 ^ 64) : MulOk i j := .inl (.inl ⟨h1, h2⟩)
theorem mul_r {i j : Int} (h1 : -(2 ^ 64) < j) (h2 : j < 2 ^ 64) : MulOk i j := .inl (.inr ⟨h1, h2⟩)
theorem w_nil {Γ : Gm} {E : XS} {D : EU} {σ : SU} {G : Gp} : wpSs Γ E .nil D σ G = D.nx σ G := rfl
/-- the rest, nothing forgotten -/
theorem w_go {P : Gp → Prop} {G : Gp} (h : P G) : ∃ G2, Sub G2 G ∧ P G2 := ⟨G, Sub.refl G, h⟩
/-- return of a constant -/
theorem w_ret {Γ : Gm} {E : XS} {u : U} {r : Sms} {D : EU} {σ : SU} {G : Gp} (h : D.rt u G) : wpSs Γ E (.cons (.ret (.lit u)) r) D σ G := h
theorem w_cons {Γ : Gm} {E : XS} {s : Sm} {r : Sms} {D : EU} {σ : SU} {G : Gp} (h : wpS Γ E s { nx := fun σ' G' => ∃ G2, Sub G2 G' ∧ wpSs Γ E r D σ' G2, rt := D.rt, bk := D.bk, ct := D.ct } σ G) : wpSs Γ E (.cons s r) D σ G := h
end Y

namespace Y
open PySem PySem.Spec PyProof.Rows L2
/-! ### one step at a time -/
section
variable {G : Gp} {a b : Addr} {xs ys : List U} {x y v : U} {Q : UK} {c i f : Nat} {fs : List (Nat × U)} {kvs : List (U × U)}
theorem ins_of {P : Addr → Nat → List (Nat × U) → Prop} (h : G a = some (.ins c fs)) (p : P a c fs) : insU (.ref a) G P := by
  unfold insU
  simp only [h]
  exact p
theorem att_of {cs : List Nat} {R : U → Prop} (h : G a = some (.ins c fs)) (hc : cs.contains c = true) (hl : fs.lookup f = some v) (q : R v) : insU (.ref a) G fun _ c fs => cs.contains c = true ∧ (match fs.lookup f with
    | some v => R v
    | none => False) := by
  refine ins_of h ⟨hc, ?_⟩
  rw [hl]
  exact q
theorem bi_list (h : G a = some (.lst xs)) (q : ∀ p, G p = none → Q (.ref p) (put G p (.lst xs))) : biU .list [.ref a] G Q := by
  simp only [biU, rdL, h, lsG]
  exact q
theorem bi_listD (h : G a = some (.dic kvs)) (q : ∀ p, G p = none → Q (.ref p) (put G p (.lst (kvs.map (·.1))))) : biU .list [.ref a] G Q := by
  simp only [biU, rdL, h, lsG, dicG]
  exact q
theorem bi_tuple (h : G a = some (.lst xs)) (q : Q (.tup xs) G) : biU .tuple [.ref a] G Q := by
  simp only [biU, rdL, h, lsG]
  exact q
theorem bi_len (h : G a = some (.lst xs)) (q : Q (.int xs.length) G) : biU .len [.ref a] G Q := by
  simp only [biU, lenU, rdL, h, lsG]
  exact q
theorem bi_lenT (q : Q (.int xs.length) G) : biU .len [.tup xs] G Q := q
theorem bi_lenR (q : Q (.int xs.length) G) : biU .len [.rl xs] G Q := q
theorem bi_isi {m n : BT} (h : tyU G x = some m) (q : Q (.bl (m.sub n)) G) : biU .isi [x, .ty n] G Q := by
  simp only [biU, h]
  exact q
theorem bi_isiT {m : BT} {ts : List U} {ns : List BT} (h : tyU G x = some m) (ht : btsU ts = some ns) (q : Q (.bl (ns.any fun n => m.sub n)) G) : biU .isi [x, .tup ts] G Q := by
  simp only [biU, h, ht]
  exact q
theorem bi_all {bs : List Bool} (h : G a = some (.lst xs)) (hb : blsU xs = some bs) (q : Q (.bl (bs.all id)) G) : biU .all [.ref a] G Q := by
  simp only [biU, lsU, h, lsG, hb]
  exact q
theorem bi_any {bs : List Bool} (h : G a = some (.lst xs)) (hb : blsU xs = some bs) (q : Q (.bl (bs.any id)) G) : biU .any [.ref a] G Q := by
  simp only [biU, lsU, h, lsG, hb]
  exact q
theorem bi_sum {ns : List Int} (h : G a = some (.lst xs)) (hb : intsU xs = some ns) (q : Q (.int ns.sum) G) : biU .sum [.ref a] G Q := by
  simp only [biU, lsU, h, lsG, hb]
  exact q
theorem bi_sorted {ns : List Int} (h : G a = some (.lst (ns.map U.int))) (q : ∀ (ns' : List Int) p, ns'.Perm ns → ns'.Pairwise (· ≤ ·) → G p = none → Q (.ref p) (put G p (.lst (ns'.map U.int)))) : biU .sorted [.ref a] G Q := by
  simp only [biU, lsU, h, lsG]
  rw [show intsU (ns.map U.int) = some ns from (intsU_map id ns).trans (by rw [List.map_id])]
  exact q
theorem bi_dict (h : G a = some (.lst xs)) (hp : pairsU xs = some kvs) (q : ∀ p, G p = none → Q (.ref p) (put G p (.dic (mergeU [] kvs)))) : biU .dict [.ref a] G Q := by
  simp only [biU, lsU, h, lsG, hp]
  exact q
theorem bi_min {i j : Int} (q : Q (.int (if j < i then j else i)) G) : biU .min [.int i, .int j] G Q := q
theorem bi_max {i j : Int} (q : Q (.int (if j > i then j else i)) G) : biU .max [.int i, .int j] G Q := q
theorem ix_l {i : Int} (h : G a = some (.lst xs)) (e : atI xs i = some v) (q : Q v G) : ixU (.ref a) (.int i) G Q := by
  simp only [ixU, rdL, h, lsG, partU, e]
  exact q
theorem ix_t {i : Int} (e : atI xs i = some v) (q : Q v G) : ixU (.tup xs) (.int i) G Q := by
  simp only [ixU, rdL, partU, e]
  exact q
theorem ix_r {i : Int} (e : atI xs i = some v) (q : Q v G) : ixU (.rl xs) (.int i) G Q := by
  simp only [ixU, rdL, partU, e]
  exact q
theorem ix_d (h : G a = some (.dic kvs)) (hk : (keyU y).isSome = true) (e : getK kvs y = some v) (q : Q v G) : ixU (.ref a) y G Q := by
  simp only [ixU, rdL, h, lsG, dicG, e]
  exact ⟨hk, q⟩
theorem set_d {z : U} {R : Gp → Prop} (h : G a = some (.dic kvs)) (hk : (keyU y).isSome = true) (hz : kvs.length < sizeLine) (q : R (put G a (.dic (putKU kvs y z)))) : setU (.ref a) y z G R := by
  simp only [setU, h]
  exact ⟨hk, hz, q⟩
theorem set_l {z : U} {R : Gp → Prop} {i : Int} {j : Nat} (h : G a = some (.lst xs)) (hj : ixN xs.length i = some j) (q : R (put G a (.lst (xs.set j z)))) : setU (.ref a) (.int i) z G R := by
  simp only [setU, h, partU, hj]
  exact q
theorem tm_app (h : G a = some (.lst xs)) : tmU .append (.ref a) G := by
  simp only [tmU, h, lsG, Option.isSome_some]
theorem bm_app (h : G a = some (.lst xs)) (hz : xs.length < sizeLine) (q : Q .non (put G a (.lst (xs ++ [y])))) : bmU .append (.ref a) [y] G Q := by
  simp only [bmU, h]
  exact ⟨hz, q⟩
theorem add_l (h1 : G a = some (.lst xs)) (h2 : G b = some (.lst ys)) (hz : xs.length + ys.length ≤ sizeLine) (q : ∀ p, G p = none → Q (.ref p) (put G p (.lst (xs ++ ys)))) : addU (.ref a) (.ref b) G Q := by
  simp only [addU, h1, h2]
  exact ⟨hz, q⟩
theorem seq_l {R : (Gp → Prop) → List U → Gp → Prop} (h : G a = some (.lst xs)) (q : R (fun G' => lsG (G' a) = some xs) xs G) : seqU (.ref a) G R := by
  simp only [seqU, h, lsG] at q ⊢
  exact q
theorem slc_l {lo hi : Option Int} (h : G a = some (.lst xs)) (q : ∀ p, G p = none → Q (.ref p) (put G p (.lst (cutU xs lo hi)))) : slcU (.ref a) lo hi G Q := by
  simp only [slcU, h, lsG]
  exact q
theorem enm_l {R : (Gp → Prop) → List U → Gp → Prop} (h : G a = some (.lst xs)) (q : R (fun G' => lsG (G' a) = some xs) (enU 0 xs) G) : enmU (.ref a) G R := by
  simp only [enmU, lsU, h, lsG] at q ⊢
  exact q
theorem zp_l {R : (Gp → Prop) → List U → Gp → Prop} (h : G a = some (.lst xs)) (h2 : G b = some (.lst ys)) (q : R (fun G' => lsG (G' a) = some xs ∧ lsG (G' b) = some ys) (zpU xs ys) G) : zpsU (.ref a) (.ref b) G R := by
  simp only [zpsU, lsU, h, h2, lsG] at q ⊢
  exact q
theorem lsG_of (h : G a = some (.lst xs)) : lsG (G a) = some xs := by rw [h]; rfl
/-- a comprehension by what holds before each turn -/
theorem lc_by {g : TGU} {tt : TTU} {te : TEU} {src : Gp → Prop} {D : Addr} {σ : SU} {R : Gp → Prop} (items : List U) (Pv : Nat → List U → Gp → Prop) {acc : List U} {G : Gp} (h0 : Pv 0 acc G) (hs : ∀ i acc G, i ≤ items.length → Pv i acc G → src G)
    (ht : ∀ i x acc G, items[i]? = some x → Pv i acc G → ∀ nx : List U → Gp → Prop, (∀ acc' G', Pv (i + 1) acc' G' → nx acc' G') →
      g x σ G fun σ2 G2 => tt σ2 G2 fun b G3 => if b = true then te σ2 G3 fun y G4 => G4 D = some (.lst acc) ∧ acc.length < sizeLine ∧ nx (acc ++ [y]) (put G4 D (.lst (acc ++ [y]))) else nx acc G3)
    (hd : ∀ acc G, Pv items.length acc G → R G) : lcU g tt te src D σ R items acc G := by
  have key : ∀ (n i : Nat) (acc : List U) (G : Gp), items.length - i = n → i ≤ items.length → Pv i acc G → lcU g tt te src D σ R (items.drop i) acc G := by
    intro n
    induction n with
    | zero =>
      intro i acc G hn hi p
      have e : i = items.length := by omega
      subst e
      rw [List.drop_length]
      exact ⟨hs _ _ _ hi p, hd _ _ p⟩
    | succ n ih =>
      intro i acc G hn hi p
      have hlt : i < items.length := by omega
      rw [List.drop_eq_getElem_cons hlt]
      exact ⟨hs _ _ _ hi p, ht i items[i] acc G (List.getElem?_eq_getElem hlt) p (lcU g tt te src D σ R (items.drop (i + 1))) fun acc' G' p' => ih (i + 1) acc' G' (by omega) hlt p'⟩
  exact key _ 0 acc G rfl (Nat.zero_le _) h0
/-- what a step of the rest needs -/
theorem w_sub {P : Gp → Prop} {G G' : Gp} (s : Sub G G') (h : P G) : ∃ G2, Sub G2 G' ∧ P G2 := ⟨G, s, h⟩
end
end Y

namespace Y
open PySem PySem.Spec PyProof.Rows L2
/-! ### what the written part must have; the law's end -/
section
variable {T : Tb} {P : Program} {w : World} {K : PySem.W.Frag} {mg : Str → Option Value} {base : Heap} {h : Heap} {x m qual : Str} {st : Stmt} {f C : Addr} {oc : Value} {od an : Option Addr} {osl : Array (Option Value)} {kV doc pm cdv ct : Value} {c n : Nat} {ps : List Str} {sp : SpU}
theorem hd_mk (X : K.In h) (Gn : h.Ns mainGlobals mg) (a : PySem.W.nsIn K mainGlobals x = some (some (.ref f))) (l : K.lookup f = some ⟨oc, od, .func (PySem.W.fnOf x x (defArgs st) (defBody st) (defScope st) .none kV doc pm an cdv ct), osl⟩) (cd : PySem.W.codeIn K cdv x = true) (k : PySem.W.keepIn K (.ref f) = true) : HasDef K mg x st :=
  ⟨f, _, PySem.W.mg_of X Gn a, fun_mk l cd k⟩
theorem cl_mk (X : K.In h) (p1 : PySem.W.plainGet K C Str.empty = true) (p2 : PySem.W.hasDictIn K C = true) (p3 : PySem.W.plainOver K C = true) (p4 : PySem.W.findIn K (.ref C) "__setattr__" = some (some (.builtin "object.__setattr__"))) : Cls K C := ⟨p1, p2, p3, p4⟩
theorem hm_mk (X : K.In h) (hc : T.cA c = C) (hn : T.nm n = m) (cl : Cls K C) (at_ : PySem.W.findIn K (.ref C) m = some (some (.ref f))) (fn : PySem.W.isFn K (.ref f) = true) (l : K.lookup f = some ⟨oc, od, .func (PySem.W.fnOf m qual (defArgs st) (defBody st) (defScope st) .none kV doc pm an cdv ct), osl⟩) (cd : PySem.W.codeIn K cdv qual = true) (k : PySem.W.keepIn K (.ref f) = true) : HasMth T K c n m qual st := by
  subst hc hn
  exact ⟨f, _, cl, ⟨at_, fn, k⟩, fun_mk l cd k⟩
theorem hi_mk (X : K.In h) (hc : T.cA c = C) (mk : PySem.W.makesIn K C = true) (at_ : PySem.W.findIn K (.ref C) "__init__" = some (some (.ref f))) (fn : PySem.W.isFn K (.ref f) = true) (kc : PySem.W.keepIn K (.ref C) = true) (l : K.lookup f = some ⟨oc, od, .func (PySem.W.fnOf "__init__" qual (defArgs st) (defBody st) (defScope st) .none kV doc pm an cdv ct), osl⟩) (cd : PySem.W.codeIn K cdv qual = true) (k : PySem.W.keepIn K (.ref f) = true) : HasIni T K c "__init__" qual st := by
  subst hc
  exact ⟨f, _, ⟨mk, at_, fn, kc⟩, fun_mk l cd k⟩
theorem na_mk (X : K.In h) (hc : T.cA c = C) (hn : T.nm n = m) (at_ : PySem.W.findIn K (.ref C) m = some none) : NoAttr K (T.cA c) (T.nm n) := by
  subst hc hn
  exact at_
theorem cs_mk (X : K.In h) (Gn : h.Ns mainGlobals mg) (zs : List Str) {a : Addr} {o : Obj} {its : Array Value} {k : Nat} (e : PySem.W.nsIn K mainGlobals x = some (some (.ref a))) (l : K.lookup a = some o) (cc : o.cls = .type "tuple") (d : o.data = .seq its k) (z : its.size ≤ sizeLine) (r : Vals (zs.map V.str) its.toList) :
    ∃ v val, mg x = some val ∧ L2.RelV v val ∧ ∀ H, RU T K H (.tup (zs.map U.str)) v := con_strs (PySem.W.mg_of X Gn e) l cc d z r
/-- nothing is promised -/
theorem fn_never {k : Nat} (d : HasDef K mg x st) (no : ∀ us G Q E, ¬ sp us G Q E) (ps : List Str)
    (hb : ∀ (kV doc pm : Value) (an : Option Addr) (cdv ct : Value) (us : List Value), us.length = ps.length → bindArgs (PySem.W.fnOf x x (defArgs st) (defBody st) (defScope st) .none kV doc pm an cdv ct) ⟨us, []⟩ = pure (ps.zip us)) : FnA T P w K mg base k x ps.length sp := by
  obtain ⟨f, fd, hm, F⟩ := d
  exact ⟨f, hm, ⟨fd, ps, F.kp, F.binds hb, rfl, ⟨fun vs H Q E q => by obtain ⟨us, G, Qu, Eu, _, _, _, s, _⟩ := q; exact (no _ _ _ _ s).elim, fun A outer s H args us vs Q E _ _ _ _ q => by obtain ⟨us, G, Qu, Eu, _, _, _, s, _⟩ := q; exact (no _ _ _ _ s).elim⟩⟩⟩
theorem mth_never {k : Nat} (d : HasMth T K c n x qual st) (no : ∀ us G Q E, ¬ sp us G Q E) (ps : List Str)
    (hb : ∀ (kV doc pm : Value) (an : Option Addr) (cdv ct : Value) (us : List Value), us.length = ps.length → bindArgs (PySem.W.fnOf x qual (defArgs st) (defBody st) (defScope st) .none kV doc pm an cdv ct) ⟨us, []⟩ = pure (ps.zip us)) : MthN T P w K mg base k c n ps.length sp := by
  obtain ⟨f, fd, C, M, F⟩ := d
  exact ⟨f, C, M, ⟨fd, ps, F.kp, F.binds hb, rfl, ⟨fun vs H Q E q => by obtain ⟨us, G, Qu, Eu, _, _, _, s, _⟩ := q; exact (no _ _ _ _ s).elim, fun A outer s H args us vs Q E _ _ _ _ q => by obtain ⟨us, G, Qu, Eu, _, _, _, s, _⟩ := q; exact (no _ _ _ _ s).elim⟩⟩⟩
end
theorem law_start {K : PySem.W.Frag} {H : Hp} {a : Addr} {ns : List Int} (hO : Only H) (hS : SqL K H a (ns.map V.int)) : LQ K H a (ns.map V.int) := by
  rcases hS with hS | hS
  · rcases hO a with e | ⟨o, u, e⟩
    · rcases hS with hS | ⟨o, hS⟩ <;> rw [e] at hS <;> cases hS
    · rcases hS with hS | ⟨o, hS⟩
      · rw [e] at hS; cases hS
      · exact .inl ⟨o, hS⟩
  · exact .inr hS
theorem walk_y {l : PySem.W.OpenLaw} {k : Nat} {q : Program} {loose : List Str} {XP : (Str → Option Value) → Heap → Prop} {YP : World → Heap → Prop} {d : DefRec} {K : Params → PySem.W.Frag} {sp : SpU} {x : Str}
    (hn : l.most = some 63) (hdf : d.params.defaults = []) (hr : Room k callerA)
    (hY : ∀ (w : World) (h : Heap), YP w h → (K w.params).In h)
    (F : ∀ (w : World) (mg : Str → Option Value) (fa : Addr) (h : Heap), (K w.params).In h → h.Ns mainGlobals mg → mg d.name = some (.ref fa) →
      ∃ (T : Tb) (fd : FuncData), (∀ (s : Shared) (u : Value), BindsTo s fd ⟨[u], []⟩ [(x, u)]) ∧ ∀ base : Heap, FnOk l.prog w (K w.params) mg base (L2.CX l.prog w) k fa fd [x] (lSp T (K w.params) 1 sp))
    (hsp : ∀ ns : List Int, ns.length ≤ 63 → sp [.rl (ns.map U.int)] (fun _ => none) (fun v _ => v = .bl true) fun _ _ _ => False) :
    PySem.W.WalkO q loose XP YP l.row.toRowW d [] (fun f vs => PySem.call f vs) := by
  refine L2.walk_of (x := x) (K := K) (CX := fun w => L2.CX l.prog w) (sp := fun w vs H Q E => ∀ T, lSp T (K w.params) 1 sp vs H Q E) hn (by decide) hdf hr hY (fun w mg fa h X Gn e => ?_) (fun w H a ns hl hO hS T => ?_) (fun w H s e s' z => ?_)
  · obtain ⟨T, fd, hb, hF⟩ := F w mg fa h X Gn e
    exact ⟨fd, hb, fun base _ _ => (hF base).imp fun vs H Q E z => z T⟩
  · refine ⟨_, fun _ => none, fun v _ => v = .bl true, fun _ _ _ => False, rfl, .cons (.rl (law_start hO hS) (RUs.ints ns)) .nil, (fun a o e => nomatch e), hsp ns hl, fun v H' h => ?_, fun c d H' h => ?_⟩
    · obtain ⟨u, Gg, t, ab, r, e⟩ := h
      subst e
      cases r
      rfl
    · obtain ⟨c, fs, Gg, _, _, _, _, e⟩ := h
      exact e
  · obtain ⟨_, _, _, _, _, _, _, _, _, _, _, _, h⟩ := z
    exact h
end Y

namespace Y
open PySem PySem.Spec PyProof.Rows L2
def topS (i : Nat) : Stmt := PySem.Challenge.pw_lastingly_k14_stretches.main.body.getD i (.Pass ⟨0, 0, 0, 0⟩)
def clsB : Stmt → List Stmt
  | .ClassDef _ _ _ b _ _ _ _ _ _ _ => b
  | _ => []
def names : List Str := ["room", "box", "place", "first", "mended", "until", "found", "told_kinds", "told_rooms", "told_boxes", "told_things", "told_events", "cut_at", "event_done", "told"]
/-! classes: 0 Path, 1 Archive; names: 0 room, 1 box, 2 place, 3 first, 4 mended, 5 until, 6 found, 7 told_kinds, 8 told_rooms, 9 told_boxes, 10 told_things, 11 told_events, 12 cut_at, 13 event_done, 14 told -/
abbrev f_is_among : Nat := 0
abbrev f_need : Nat := 1
abbrev f_row_of : Nat := 2
abbrev f_need_moment : Nat := 3
abbrev f_thing_row : Nat := 4
abbrev f_stretches : Nat := 5
abbrev f__law_mixed : Nat := 6
abbrev f__law_cell_at : Nat := 7
abbrev f__law_alike : Nat := 8
abbrev f__law_points : Nat := 9
abbrev f__law_kind : Nat := 10
abbrev f__law_room : Nat := 11
abbrev f__law_deed : Nat := 12
abbrev f__law_archive : Nat := 13
abbrev f__law_state : Nat := 14
abbrev f__law_cuts : Nat := 15
abbrev f__law_due : Nat := 16
abbrev f__law_right : Nat := 17
abbrev f_law : Nat := 18
abbrev f_Path___init__ : Nat := 19
abbrev f_Path_cut_at : Nat := 20
abbrev f_Path_event_done : Nat := 21
abbrev f_Archive___init__ : Nat := 22
abbrev f_Archive_told : Nat := 23
/-! is_among -/
abbrev st_is_among : Stmt := topS 4
def ce_is_among : CE := { N := ["thing", "least", "most"], cons := [], fns := [], blt := ["isinstance", "bool", "int"] }
def ir_is_among : Sms := .cons (.ret (.conj (.blt .isi (.cons (.var 0) (.cons (.lit (.ty .int)) .nil))) (.conj (.inv (.blt .isi (.cons (.var 0) (.cons (.lit (.ty .bool)) .nil)))) (.chn .LtE .LtE (.var 1) (.var 0) (.var 2))))) .nil
theorem sc_is_among : FnScope ce_is_among.N ["thing", "least", "most"] (defScope st_is_among) := ⟨rfl, rfl, rfl, by decide +kernel, rfl, by decide +kernel, by decide +kernel⟩
theorem hc_is_among : cS.cSs (cS ce_is_among (defScope st_is_among) (fun _ => true) 40) (defBody st_is_among) = some ir_is_among := by kernel_rfl
/-! need -/
abbrev st_need : Stmt := topS 5
def ce_need : CE := { N := ["is_good"], cons := [], fns := [], blt := [] }
def ir_need_1 : Sms := .cons (.rse) .nil
def ir_need : Sms := .cons (.ifs (.inv (.var 0)) ir_need_1 .nil) .nil
theorem sc_need : FnScope ce_need.N ["is_good"] (defScope st_need) := ⟨rfl, rfl, rfl, by decide +kernel, rfl, by decide +kernel, by decide +kernel⟩
theorem hc_need : cS.cSs (cS ce_need (defScope st_need) (fun _ => true) 40) (defBody st_need) = some ir_need := by kernel_rfl
/-! row_of -/
abbrev st_row_of : Stmt := topS 6
def ce_row_of : CE := { N := ["rows", "name", "row"], cons := [], fns := [], blt := ["isinstance", "str"] }
def ir_row_of_2 : Sms := .cons (.ifs (.conj (.blt .isi (.cons (.var 1) (.cons (.lit (.ty .str)) .nil))) (.cmp .Eq (.ix (.var 2) (.lit (.int 0))) (.var 1))) (.cons (.ret (.var 2)) .nil) .nil) .nil
def ir_row_of_1 : Sms := .cons (.rse) .nil
def ir_row_of : Sms := .cons (.fors (.name 2) (.ex (.var 0)) ir_row_of_2) ir_row_of_1
theorem sc_row_of : FnScope ce_row_of.N ["rows", "name"] (defScope st_row_of) := ⟨rfl, rfl, rfl, by decide +kernel, rfl, by decide +kernel, by decide +kernel⟩
theorem hc_row_of : cS.cSs (cS ce_row_of (defScope st_row_of) (fun _ => true) 40) (defBody st_row_of) = some ir_row_of := by kernel_rfl
/-! need_moment -/
abbrev st_need_moment : Stmt := topS 9
def ce_need_moment : CE := { N := ["hour"], cons := [("LAST_HOUR", (.int 1000000000))], fns := [("need", f_need), ("is_among", f_is_among)], blt := [] }
def ir_need_moment : Sms := .cons (.expr (.call f_need (.cons (.call f_is_among (.cons (.var 0) (.cons (.lit (.int 0)) (.cons (.lit (.int 1000000000)) .nil)))) .nil))) .nil
theorem sc_need_moment : FnScope ce_need_moment.N ["hour"] (defScope st_need_moment) := ⟨rfl, rfl, rfl, by decide +kernel, rfl, by decide +kernel, by decide +kernel⟩
theorem hc_need_moment : cS.cSs (cS ce_need_moment (defScope st_need_moment) (fun _ => true) 40) (defBody st_need_moment) = some ir_need_moment := by kernel_rfl
/-! thing_row -/
abbrev st_thing_row : Stmt := topS 10
def ce_thing_row : CE := { N := ["archive", "thing"], cons := [], fns := [("row_of", f_row_of)], blt := [], mts := [("told", (14, [(1, f_Archive_told)]))] }
def ir_thing_row : Sms := .cons (.ret (.call f_row_of (.cons (.ix (.mth (.var 0) 14 [(1, f_Archive_told)] .nil) (.lit (.int 3))) (.cons (.var 1) .nil)))) .nil
theorem sc_thing_row : FnScope ce_thing_row.N ["archive", "thing"] (defScope st_thing_row) := ⟨rfl, rfl, rfl, by decide +kernel, rfl, by decide +kernel, by decide +kernel⟩
theorem hc_thing_row : cS.cSs (cS ce_thing_row (defScope st_thing_row) (fun _ => true) 40) (defBody st_thing_row) = some ir_thing_row := by kernel_rfl
/-! stretches -/
abbrev st_stretches : Stmt := topS 12
def ce_stretches : CE := { N := ["archive", "thing", "hour", "row", "path", "at", "name", "deed"], cons := [], fns := [("thing_row", f_thing_row), ("need_moment", f_need_moment)], blt := [], cls := [("Path", (0, f_Path___init__))], fld := [("found", (6, [0]))], mts := [("told", (14, [(1, f_Archive_told)])), ("event_done", (13, [(0, f_Path_event_done)])), ("cut_at", (12, [(0, f_Path_cut_at)]))] }
def ir_stretches_7 : Sms := .cons (.expr (.mth (.var 4) 13 [(0, f_Path_event_done)] (.cons (.var 5) (.cons (.var 7) .nil)))) .nil
def ir_stretches_6 : Sms := .cons (.ifs (.conj (.cmp .Eq (.var 6) (.var 1)) (.cmp .Lt (.var 5) (.var 2))) ir_stretches_7 .nil) .nil
def ir_stretches_5 : Sms := .cons (.ret (.att (.var 4) 6 [0])) .nil
def ir_stretches_4 : Sms := .cons (.expr (.mth (.var 4) 12 [(0, f_Path_cut_at)] (.cons (.var 2) .nil))) ir_stretches_5
def ir_stretches_3 : Sms := .cons (.fors (.tup [.name 5, .name 6, .name 7]) (.ex (.ix (.mth (.var 0) 14 [(1, f_Archive_told)] .nil) (.lit (.int 4)))) ir_stretches_6) ir_stretches_4
def ir_stretches_2 : Sms := .cons (.set (.name 4) (.new 0 f_Path___init__ (.cons (.ix (.var 3) (.lit (.int 2))) (.cons (.ix (.var 3) (.lit (.int 3))) .nil)))) ir_stretches_3
def ir_stretches_1 : Sms := .cons (.expr (.call f_need_moment (.cons (.var 2) .nil))) ir_stretches_2
def ir_stretches : Sms := .cons (.set (.name 3) (.call f_thing_row (.cons (.var 0) (.cons (.var 1) .nil)))) ir_stretches_1
theorem sc_stretches : FnScope ce_stretches.N ["archive", "thing", "hour"] (defScope st_stretches) := ⟨rfl, rfl, rfl, by decide +kernel, rfl, by decide +kernel, by decide +kernel⟩
theorem hc_stretches : cS.cSs (cS ce_stretches (defScope st_stretches) (fun _ => true) 40) (defBody st_stretches) = some ir_stretches := by kernel_rfl
/-! law mixed -/
abbrev st__law_mixed : Stmt := topS 16
def ce__law_mixed : CE := { N := ["_law_cell", "_law_k", "_law_number"], cons := [], fns := [], blt := [] }
def ir__law_mixed_3 : Sms := .cons (.ret (.bin .Mod (.bin .Mult (.var 2) (.var 2)) (.lit (.int 618970019642690137449562111)))) .nil
def ir__law_mixed_2 : Sms := .cons (.ret (.bin .FloorDiv (.bin .Mod (.bin .Mult (.bin .Mod (.bin .Mult (.var 2) (.var 2)) (.lit (.int 1000000007))) (.lit (.int 48271))) (.lit (.int 998244353))) (.lit (.int 11)))) .nil
def ir__law_mixed_1 : Sms := .cons (.ifs (.cmp .GtE (.var 0) (.bin .Pow (.lit (.int 10)) (.lit (.int 18)))) ir__law_mixed_3 .nil) ir__law_mixed_2
def ir__law_mixed : Sms := .cons (.set (.name 2) (.bin .Add (.bin .Add (.bin .Mod (.var 0) (.bin .Pow (.lit (.int 10)) (.lit (.int 30)))) (.bin .Mult (.lit (.int 7919)) (.var 1))) (.lit (.int 13)))) ir__law_mixed_1
theorem sc__law_mixed : FnScope ce__law_mixed.N ["_law_cell", "_law_k"] (defScope st__law_mixed) := ⟨rfl, rfl, rfl, by decide +kernel, rfl, by decide +kernel, by decide +kernel⟩
theorem hc__law_mixed : cS.cSs (cS ce__law_mixed (defScope st__law_mixed) (fun _ => true) 40) (defBody st__law_mixed) = some ir__law_mixed := by kernel_rfl
/-! law cell_at -/
abbrev st__law_cell_at : Stmt := topS 17
def ce__law_cell_at : CE := { N := ["_law_script", "_law_k"], cons := [], fns := [], blt := ["len"] }
def ir__law_cell_at : Sms := .cons (.ret (.ite (.cmp .NotEq (.var 0) (.lst .nil)) (.ix (.var 0) (.bin .Mod (.var 1) (.blt .len (.cons (.var 0) .nil)))) (.var 1))) .nil
theorem sc__law_cell_at : FnScope ce__law_cell_at.N ["_law_script", "_law_k"] (defScope st__law_cell_at) := ⟨rfl, rfl, rfl, by decide +kernel, rfl, by decide +kernel, by decide +kernel⟩
theorem hc__law_cell_at : cS.cSs (cS ce__law_cell_at (defScope st__law_cell_at) (fun _ => true) 40) (defBody st__law_cell_at) = some ir__law_cell_at := by kernel_rfl
/-! law alike -/
abbrev st__law_alike : Stmt := topS 18
def ce__law_alike : CE := { N := ["_law_found", "_law_due_here", "_law_one", "_law_other"], cons := [], fns := [("_law_alike", f__law_alike)], blt := ["isinstance", "list", "tuple", "all", "zip", "len", "bool"] }
def ir__law_alike_3 : Sms := .cons (.ret (.conj (.cmp .Eq (.blt .len (.cons (.var 0) .nil)) (.blt .len (.cons (.var 1) .nil))) (.blt .all (.cons (.lc (.call f__law_alike (.cons (.var 2) (.cons (.var 3) .nil))) [2, 3] (.tup [.name 2, .name 3]) (.zp (.var 0) (.var 1)) .none) .nil)))) .nil
def ir__law_alike_2 : Sms := .cons (.ifs (.disj (.cmp .NotEq (.blt .isi (.cons (.var 0) (.cons (.lit (.ty .lst)) .nil))) (.blt .isi (.cons (.var 1) (.cons (.lit (.ty .lst)) .nil)))) (.inv (.blt .isi (.cons (.var 0) (.cons (.tup (.cons (.lit (.ty .tup)) (.cons (.lit (.ty .lst)) .nil))) .nil))))) (.cons (.ret (.lit (.bl false))) .nil) .nil) ir__law_alike_3
def ir__law_alike_1 : Sms := .cons (.ret (.conj (.cmp .Eq (.blt .isi (.cons (.var 0) (.cons (.lit (.ty .bool)) .nil))) (.blt .isi (.cons (.var 1) (.cons (.lit (.ty .bool)) .nil)))) (.cmp .Eq (.var 0) (.var 1)))) .nil
def ir__law_alike : Sms := .cons (.ifs (.blt .isi (.cons (.var 1) (.cons (.tup (.cons (.lit (.ty .tup)) (.cons (.lit (.ty .lst)) .nil))) .nil))) ir__law_alike_2 .nil) ir__law_alike_1
theorem sc__law_alike : FnScope ce__law_alike.N ["_law_found", "_law_due_here"] (defScope st__law_alike) := ⟨rfl, rfl, rfl, by decide +kernel, rfl, by decide +kernel, by decide +kernel⟩
theorem hc__law_alike : cS.cSs (cS ce__law_alike (defScope st__law_alike) (fun _ => true) 40) (defBody st__law_alike) = some ir__law_alike := by kernel_rfl
/-! law points -/
abbrev st__law_points : Stmt := topS 19
def ce__law_points : CE := { N := ["_law_number", "_law_most", "_law_many", "_law_found", "_law_k", "_law_one"], cons := [], fns := [("_law_mixed", f__law_mixed)], blt := ["range", "tuple", "sorted"] }
def ir__law_points_5 : Sms := .cons (.expr (.btm (.var 3) .append (.cons (.var 5) .nil))) .nil
def ir__law_points_4 : Sms := .cons (.ifs (.cmp .NotIn (.var 5) (.var 3)) ir__law_points_5 .nil) .nil
def ir__law_points_3 : Sms := .cons (.set (.name 5) (.bin .Mod (.call f__law_mixed (.cons (.var 0) (.cons (.bin .Add (.var 4) (.lit (.int 2))) .nil))) (.bin .Add (.var 1) (.lit (.int 1))))) ir__law_points_4
def ir__law_points_2 : Sms := .cons (.ret (.blt .tuple (.cons (.blt .sorted (.cons (.var 3) .nil)) .nil))) .nil
def ir__law_points_1 : Sms := .cons (.fors (.name 4) (.rng1 (.var 2)) ir__law_points_3) ir__law_points_2
def ir__law_points : Sms := .cons (.set (.name 3) (.lst .nil)) ir__law_points_1
theorem sc__law_points : FnScope ce__law_points.N ["_law_number", "_law_most", "_law_many"] (defScope st__law_points) := ⟨rfl, rfl, rfl, by decide +kernel, rfl, by decide +kernel, by decide +kernel⟩
theorem hc__law_points : cS.cSs (cS ce__law_points (defScope st__law_points) (fun _ => true) 40) (defBody st__law_points) = some ir__law_points := by kernel_rfl
/-! law kind -/
abbrev st__law_kind : Stmt := topS 20
def ce__law_kind : CE := { N := ["_law_number", "_law_name", "_law_life", "_law_warmths", "_law_wets", "_law_table", "_law_k", "_law_parts", "_law_j"], cons := [], fns := [("_law_points", f__law_points), ("_law_mixed", f__law_mixed)], blt := ["range", "len", "tuple"] }
def ir__law_kind_7 : Sms := .cons (.expr (.btm (.var 5) .append (.cons (.blt .tuple (.cons (.var 7) .nil)) .nil))) .nil
def ir__law_kind_6 : Sms := .cons (.set (.name 7) (.lc (.bin .Mod (.call f__law_mixed (.cons (.var 0) (.cons (.bin .Add (.bin .Add (.lit (.int 20)) (.bin .Mult (.lit (.int 5)) (.var 6))) (.var 8)) .nil))) (.ix (.lst (.cons (.lit (.int 2)) (.cons (.lit (.int 11)) (.cons (.lit (.int 1001)) .nil)))) (.bin .Mod (.bin .FloorDiv (.var 0) (.lit (.int 810))) (.lit (.int 3))))) [8] (.name 8) (.rng1 (.blt .len (.cons (.var 4) .nil))) .none)) ir__law_kind_7
def ir__law_kind_5 : Sms := .cons (.ret (.tup (.cons (.var 1) (.cons (.var 2) (.cons (.var 3) (.cons (.var 4) (.cons (.blt .tuple (.cons (.var 5) .nil)) .nil))))))) .nil
def ir__law_kind_4 : Sms := .cons (.fors (.name 6) (.rng1 (.blt .len (.cons (.var 3) .nil))) ir__law_kind_6) ir__law_kind_5
def ir__law_kind_3 : Sms := .cons (.set (.name 5) (.lst .nil)) ir__law_kind_4
def ir__law_kind_2 : Sms := .cons (.set (.name 4) (.call f__law_points (.cons (.bin .FloorDiv (.var 0) (.lit (.int 7))) (.cons (.lit (.int 100)) (.cons (.bin .Add (.lit (.int 1)) (.bin .Mod (.bin .FloorDiv (.var 0) (.lit (.int 270))) (.lit (.int 3)))) .nil))))) ir__law_kind_3
def ir__law_kind_1 : Sms := .cons (.set (.name 3) (.call f__law_points (.cons (.var 0) (.cons (.lit (.int 40)) (.cons (.bin .Add (.lit (.int 1)) (.bin .Mod (.bin .FloorDiv (.var 0) (.lit (.int 90))) (.lit (.int 3)))) .nil))))) ir__law_kind_2
def ir__law_kind : Sms := .cons (.set (.name 2) (.ix (.lst (.cons (.bin .Add (.lit (.int 1)) (.bin .Mod (.bin .FloorDiv (.var 0) (.lit (.int 9))) (.lit (.int 20)))) (.cons (.bin .Add (.lit (.int 1000)) (.bin .Mod (.bin .FloorDiv (.var 0) (.lit (.int 9))) (.lit (.int 9000)))) (.cons (.bin .Pow (.lit (.int 10)) (.lit (.int 9))) .nil)))) (.bin .Mod (.bin .FloorDiv (.var 0) (.lit (.int 3))) (.lit (.int 3))))) ir__law_kind_1
theorem sc__law_kind : FnScope ce__law_kind.N ["_law_number", "_law_name"] (defScope st__law_kind) := ⟨rfl, rfl, rfl, by decide +kernel, rfl, by decide +kernel, by decide +kernel⟩
theorem hc__law_kind : cS.cSs (cS ce__law_kind (defScope st__law_kind) (fun _ => true) 40) (defBody st__law_kind) = some ir__law_kind := by kernel_rfl
/-! law room -/
abbrev st__law_room : Stmt := topS 21
def ce__law_room : CE := { N := ["_law_number", "_law_name", "_law_hours", "_law_k", "_law_one", "_law_day", "_law_days", "_law_seasons"], cons := [], fns := [("_law_mixed", f__law_mixed)], blt := ["range", "sorted", "tuple"] }
def ir__law_room_10 : Sms := .cons (.expr (.btm (.var 2) .append (.cons (.var 4) .nil))) .nil
def ir__law_room_9 : Sms := .cons (.ifs (.cmp .NotIn (.var 4) (.var 2)) ir__law_room_10 .nil) .nil
def ir__law_room_8 : Sms := .cons (.set (.name 4) (.bin .Add (.lit (.int 1)) (.bin .Mod (.call f__law_mixed (.cons (.var 0) (.cons (.bin .Add (.lit (.int 40)) (.var 3)) .nil))) (.lit (.int 23))))) ir__law_room_9
def ir__law_room_13 : Sms := .cons (.expr (.btm (.var 6) .append (.cons (.var 4) .nil))) .nil
def ir__law_room_12 : Sms := .cons (.ifs (.cmp .NotIn (.var 4) (.var 6)) ir__law_room_13 .nil) .nil
def ir__law_room_11 : Sms := .cons (.set (.name 4) (.bin .Mod (.call f__law_mixed (.cons (.var 0) (.cons (.bin .Add (.lit (.int 45)) (.var 3)) .nil))) (.ix (.lst (.cons (.lit (.int 4)) (.cons (.lit (.int 365)) .nil))) (.bin .Mod (.bin .FloorDiv (.var 0) (.lit (.int 9))) (.lit (.int 2)))))) ir__law_room_12
def ir__law_room_14 : Sms := .cons (.expr (.btm (.var 7) .append (.cons (.tup (.cons (.var 4) (.cons (.bin .Sub (.bin .Mod (.call f__law_mixed (.cons (.var 0) (.cons (.var 4) .nil))) (.lit (.int 81))) (.lit (.int 40))) (.cons (.bin .Sub (.bin .Mod (.call f__law_mixed (.cons (.var 0) (.cons (.bin .Add (.var 4) (.lit (.int 1))) .nil))) (.lit (.int 201))) (.lit (.int 100))) .nil)))) .nil))) .nil
def ir__law_room_7 : Sms := .cons (.ret (.tup (.cons (.var 1) (.cons (.bin .Add (.lit (.int 1)) (.bin .Mod (.bin .FloorDiv (.var 0) (.lit (.int 18))) (.lit (.int 12)))) (.cons (.tup .nil) (.cons (.blt .tuple (.cons (.var 5) .nil)) (.cons (.blt .tuple (.cons (.var 7) .nil)) .nil))))))) .nil
def ir__law_room_6 : Sms := .cons (.fors (.name 4) (.ex (.blt .sorted (.cons (.var 6) .nil))) ir__law_room_14) ir__law_room_7
def ir__law_room_5 : Sms := .cons (.set (.name 7) (.lst .nil)) ir__law_room_6
def ir__law_room_4 : Sms := .cons (.fors (.name 3) (.rng1 (.bin .Mod (.bin .FloorDiv (.var 0) (.lit (.int 3))) (.lit (.int 3)))) ir__law_room_11) ir__law_room_5
def ir__law_room_3 : Sms := .cons (.set (.name 6) (.lst .nil)) ir__law_room_4
def ir__law_room_2 : Sms := .cons (.set (.name 5) (.lc (.tup (.cons (.var 4) (.cons (.bin .Mod (.call f__law_mixed (.cons (.var 0) (.cons (.var 4) .nil))) (.lit (.int 41))) (.cons (.bin .Mod (.call f__law_mixed (.cons (.var 0) (.cons (.bin .Add (.var 4) (.lit (.int 30))) .nil))) (.lit (.int 101))) .nil)))) [4] (.name 4) (.ex (.blt .sorted (.cons (.var 2) .nil))) .none)) ir__law_room_3
def ir__law_room_1 : Sms := .cons (.fors (.name 3) (.rng1 (.bin .Mod (.var 0) (.lit (.int 3)))) ir__law_room_8) ir__law_room_2
def ir__law_room : Sms := .cons (.set (.name 2) (.lst (.cons (.lit (.int 0)) .nil))) ir__law_room_1
theorem sc__law_room : FnScope ce__law_room.N ["_law_number", "_law_name"] (defScope st__law_room) := ⟨rfl, rfl, rfl, by decide +kernel, rfl, by decide +kernel, by decide +kernel⟩
theorem hc__law_room : cS.cSs (cS ce__law_room (defScope st__law_room) (fun _ => true) 40) (defBody st__law_room) = some ir__law_room := by kernel_rfl
/-! law deed -/
abbrev st__law_deed : Stmt := topS 22
def ce__law_deed : CE := { N := ["_law_number", "_law_hour", "_law_way", "_law_many"], cons := [], fns := [], blt := [] }
def ir__law_deed_6 : Sms := .cons (.ret (.tup (.cons (.tup (.cons (.lit (.str (S [109, 111, 118, 101]))) (.cons (.ix (.lst (.cons (.lit (.str (S [97, 119, 97, 121]))) (.cons (.lit (.str (S [114, 111, 111, 109]))) .nil))) (.bin .Mod (.bin .FloorDiv (.var 0) (.lit (.int 5))) (.lit (.int 2)))) .nil))) (.cons (.var 1) .nil)))) .nil
def ir__law_deed_7 : Sms := .cons (.ret (.tup (.cons (.tup (.cons (.lit (.str (S [98, 111, 120]))) (.cons (.ix (.lst (.cons (.lit (.str (S []))) (.cons (.lit (.str (S [99, 104, 101, 115, 116]))) .nil))) (.bin .Mod (.bin .FloorDiv (.var 0) (.lit (.int 5))) (.lit (.int 2)))) .nil))) (.cons (.var 1) .nil)))) .nil
def ir__law_deed_8 : Sms := .cons (.ret (.tup (.cons (.tup (.cons (.lit (.str (S [109, 101, 110, 100]))) (.cons (.ix (.lst (.cons (.lit (.int 0)) (.cons (.bin .Mod (.bin .FloorDiv (.var 0) (.lit (.int 10))) (.lit (.int 50))) (.cons (.bin .Mod (.bin .FloorDiv (.var 0) (.lit (.int 10))) (.bin .Pow (.lit (.int 10)) (.lit (.int 9)))) .nil)))) (.bin .Mod (.bin .FloorDiv (.var 0) (.lit (.int 5))) (.lit (.int 3)))) .nil))) (.cons (.var 1) .nil)))) .nil
def ir__law_deed_5 : Sms := .cons (.ret (.tup (.cons (.tup (.cons (.lit (.str (S [108, 101, 110, 100]))) (.cons (.var 3) (.cons (.bin .Mod (.bin .FloorDiv (.var 0) (.lit (.int 60))) (.lit (.int 41))) (.cons (.bin .Mod (.bin .FloorDiv (.var 0) (.lit (.int 2460))) (.lit (.int 101))) .nil))))) (.cons (.bin .Add (.var 1) (.var 3)) .nil)))) .nil
def ir__law_deed_4 : Sms := .cons (.set (.name 3) (.bin .Add (.lit (.int 1)) (.bin .Mod (.bin .FloorDiv (.var 0) (.lit (.int 5))) (.lit (.int 12))))) ir__law_deed_5
def ir__law_deed_3 : Sms := .cons (.ifs (.cmp .Eq (.var 2) (.lit (.int 3))) ir__law_deed_8 .nil) ir__law_deed_4
def ir__law_deed_2 : Sms := .cons (.ifs (.cmp .Eq (.var 2) (.lit (.int 2))) ir__law_deed_7 .nil) ir__law_deed_3
def ir__law_deed_1 : Sms := .cons (.ifs (.cmp .Lt (.var 2) (.lit (.int 2))) ir__law_deed_6 .nil) ir__law_deed_2
def ir__law_deed : Sms := .cons (.set (.name 2) (.bin .Mod (.var 0) (.lit (.int 5)))) ir__law_deed_1
theorem sc__law_deed : FnScope ce__law_deed.N ["_law_number", "_law_hour"] (defScope st__law_deed) := ⟨rfl, rfl, rfl, by decide +kernel, rfl, by decide +kernel, by decide +kernel⟩
theorem hc__law_deed : cS.cSs (cS ce__law_deed (defScope st__law_deed) (fun _ => true) 40) (defBody st__law_deed) = some ir__law_deed := by kernel_rfl
/-! law archive -/
abbrev st__law_archive : Stmt := topS 23
def ce__law_archive : CE := { N := ["_law_script", "_law_most", "_law_gap", "_law_one", "_law_kinds", "_law_rooms", "_law_low", "_law_boxes", "_law_things", "_law_k", "_law_name", "_law_number", "_law_parts", "_law_place", "_law_events", "_law_free", "_law_hour", "_law_cell", "_law_deed_here", "_law_until", "_law_row"], cons := [], fns := [("_law_mixed", f__law_mixed), ("_law_cell_at", f__law_cell_at), ("_law_kind", f__law_kind), ("_law_room", f__law_room), ("_law_deed", f__law_deed)], blt := ["range", "enumerate", "dict", "min", "len"] }
def ir__law_archive_15 : Sms := .cons (.expr (.btm (.var 8) .append (.cons (.bin .Add (.bin .Add (.tup (.cons (.var 10) (.cons (.ix (.lst (.cons (.lit (.str (S [115, 105, 108, 107]))) (.cons (.lit (.str (S [99, 108, 97, 121]))) .nil))) (.bin .Mod (.bin .FloorDiv (.var 11) (.lit (.int 3))) (.lit (.int 2)))) .nil))) (.var 13)) (.tup (.cons (.var 12) .nil))) .nil))) .nil
def ir__law_archive_14 : Sms := .cons (.set (.name 13) (.tup (.cons (.ix (.lst (.cons (.lit (.str (S [97, 119, 97, 121]))) (.cons (.lit (.str (S [114, 111, 111, 109]))) .nil))) (.bin .Mod (.bin .FloorDiv (.var 11) (.lit (.int 6))) (.lit (.int 2)))) (.cons (.ix (.lst (.cons (.lit (.str (S []))) (.cons (.lit (.str (S [99, 104, 101, 115, 116]))) .nil))) (.bin .Mod (.bin .FloorDiv (.var 11) (.lit (.int 12))) (.lit (.int 2)))) .nil)))) ir__law_archive_15
def ir__law_archive_13 : Sms := .cons (.set (.name 12) (.ix (.lst (.cons (.lit (.int 0)) (.cons (.bin .Mod (.bin .FloorDiv (.var 11) (.lit (.int 8))) (.lit (.int 9))) (.cons (.bin .Mod (.bin .FloorDiv (.var 11) (.lit (.int 8))) (.bin .Pow (.lit (.int 10)) (.lit (.int 9)))) .nil)))) (.bin .Mod (.var 11) (.lit (.int 3))))) ir__law_archive_14
def ir__law_archive_12 : Sms := .cons (.set (.name 11) (.call f__law_mixed (.cons (.call f__law_cell_at (.cons (.var 0) (.cons (.bin .Add (.var 9) (.lit (.int 2))) .nil))) (.cons (.bin .Add (.var 9) (.lit (.int 60))) .nil)))) ir__law_archive_13
def ir__law_archive_22 : Sms := .cons (.setI (.var 15) (.var 10) (.var 19)) .nil
def ir__law_archive_21 : Sms := .cons (.expr (.btm (.var 14) .append (.cons (.tup (.cons (.var 16) (.cons (.var 10) (.cons (.var 18) .nil)))) .nil))) ir__law_archive_22
def ir__law_archive_20 : Sms := .cons (.ifs (.cmp .LtE (.ix (.var 15) (.var 10)) (.var 16)) ir__law_archive_21 .nil) .nil
def ir__law_archive_19 : Sms := .cons (.set (.tup [.name 18, .name 19]) (.call f__law_deed (.cons (.bin .FloorDiv (.var 11) (.lit (.int 200))) (.cons (.var 16) .nil)))) ir__law_archive_20
def ir__law_archive_18 : Sms := .cons (.set (.name 10) (.ix (.ix (.var 8) (.bin .Mod (.bin .FloorDiv (.var 11) (.lit (.int 60))) (.blt .len (.cons (.var 8) .nil)))) (.lit (.int 0)))) ir__law_archive_19
def ir__law_archive_17 : Sms := .cons (.set (.name 16) (.blt .min (.cons (.bin .Pow (.lit (.int 10)) (.lit (.int 9))) (.cons (.bin .Add (.var 16) (.ix (.lst (.cons (.lit (.int 0)) (.cons (.bin .Mod (.bin .FloorDiv (.var 11) (.lit (.int 3))) (.var 2)) (.cons (.bin .Mod (.bin .FloorDiv (.var 11) (.lit (.int 3))) (.lit (.int 7))) .nil)))) (.bin .Mod (.var 11) (.lit (.int 3))))) .nil)))) ir__law_archive_18
def ir__law_archive_16 : Sms := .cons (.set (.name 11) (.call f__law_mixed (.cons (.var 17) (.cons (.bin .Add (.var 9) (.lit (.int 65))) .nil)))) ir__law_archive_17
def ir__law_archive_11 : Sms := .cons (.ret (.tup (.cons (.var 4) (.cons (.var 5) (.cons (.var 7) (.cons (.var 8) (.cons (.var 14) .nil))))))) .nil
def ir__law_archive_10 : Sms := .cons (.fors (.tup [.name 9, .name 17]) (.enm (.slc (.var 0) (.some (.lit (.int 5))) (.some (.bin .Add (.lit (.int 5)) (.var 1))))) ir__law_archive_16) ir__law_archive_11
def ir__law_archive_9 : Sms := .cons (.set (.name 16) (.lit (.int 0))) ir__law_archive_10
def ir__law_archive_8 : Sms := .cons (.set (.name 15) (.blt .dict (.cons (.lc (.tup (.cons (.ix (.var 20) (.lit (.int 0))) (.cons (.lit (.int 0)) .nil))) [20] (.name 20) (.ex (.var 8)) .none) .nil))) ir__law_archive_9
def ir__law_archive_7 : Sms := .cons (.set (.name 14) (.lst .nil)) ir__law_archive_8
def ir__law_archive_6 : Sms := .cons (.fors (.tup [.name 9, .name 10]) (.enm (.slc (.lst (.cons (.lit (.str (S [118, 97, 115, 101]))) (.cons (.lit (.str (S [109, 97, 112]))) (.cons (.lit (.str (S [114, 111, 98, 101]))) .nil)))) .none (.some (.bin .Add (.lit (.int 1)) (.bin .Mod (.bin .FloorDiv (.ix (.var 3) (.lit (.int 4))) (.lit (.int 7))) (.lit (.int 3))))))) ir__law_archive_12) ir__law_archive_7
def ir__law_archive_5 : Sms := .cons (.set (.name 8) (.lst .nil)) ir__law_archive_6
def ir__law_archive_4 : Sms := .cons (.set (.name 7) (.lst (.cons (.tup (.cons (.lit (.str (S [99, 104, 101, 115, 116]))) (.cons (.var 6) (.cons (.bin .Add (.var 6) (.bin .Mod (.bin .FloorDiv (.ix (.var 3) (.lit (.int 4))) (.lit (.int 101))) (.bin .Sub (.lit (.int 101)) (.var 6)))) .nil)))) .nil))) ir__law_archive_5
def ir__law_archive_3 : Sms := .cons (.set (.name 6) (.bin .Mod (.ix (.var 3) (.lit (.int 4))) (.lit (.int 101)))) ir__law_archive_4
def ir__law_archive_2 : Sms := .cons (.set (.name 5) (.lst (.cons (.call f__law_room (.cons (.ix (.var 3) (.lit (.int 2))) (.cons (.lit (.str (S [97, 119, 97, 121]))) .nil))) (.cons (.call f__law_room (.cons (.ix (.var 3) (.lit (.int 3))) (.cons (.lit (.str (S [114, 111, 111, 109]))) .nil))) .nil)))) ir__law_archive_3
def ir__law_archive_1 : Sms := .cons (.set (.name 4) (.lst (.cons (.call f__law_kind (.cons (.ix (.var 3) (.lit (.int 0))) (.cons (.lit (.str (S [115, 105, 108, 107]))) .nil))) (.cons (.call f__law_kind (.cons (.ix (.var 3) (.lit (.int 1))) (.cons (.lit (.str (S [99, 108, 97, 121]))) .nil))) .nil)))) ir__law_archive_2
def ir__law_archive : Sms := .cons (.set (.name 3) (.lc (.call f__law_mixed (.cons (.call f__law_cell_at (.cons (.var 0) (.cons (.var 9) .nil))) (.cons (.bin .Add (.var 9) (.lit (.int 50))) .nil))) [9] (.name 9) (.rng1 (.lit (.int 5))) .none)) ir__law_archive_1
theorem sc__law_archive : FnScope ce__law_archive.N ["_law_script", "_law_most", "_law_gap"] (defScope st__law_archive) := ⟨rfl, rfl, rfl, by decide +kernel, rfl, by decide +kernel, by decide +kernel⟩
theorem hc__law_archive : cS.cSs (cS ce__law_archive (defScope st__law_archive) (fun _ => true) 40) (defBody st__law_archive) = some ir__law_archive := by kernel_rfl
/-! law state -/
abbrev st__law_state : Stmt := topS 24
def ce__law_state : CE := { N := ["_law_rows", "_law_name", "_law_hour", "_law_thing", "_law_room_here", "_law_box", "_law_away", "_law_mended", "_law_at", "_law_other", "_law_deed_here", "_law_row"], cons := [], fns := [], blt := [] }
def ir__law_state_9 : Sms := .cons (.set (.name 4) (.ix (.var 10) (.lit (.int 1)))) .nil
def ir__law_state_10 : Sms := .cons (.set (.name 5) (.ix (.var 10) (.lit (.int 1)))) .nil
def ir__law_state_11 : Sms := .cons (.set (.name 6) (.tup (.cons (.lit (.str (S [97, 119, 97, 121]))) (.cons (.ix (.var 10) (.lit (.int 2))) (.cons (.ix (.var 10) (.lit (.int 3))) .nil))))) .nil
def ir__law_state_12 : Sms := .cons (.set (.name 7) (.ix (.var 10) (.lit (.int 1)))) .nil
def ir__law_state_8 : Sms := .cons (.ifs (.conj (.cmp .Eq (.ix (.var 10) (.lit (.int 0))) (.lit (.str (S [109, 101, 110, 100])))) (.cmp .Eq (.var 8) (.var 2))) ir__law_state_12 .nil) .nil
def ir__law_state_7 : Sms := .cons (.ifs (.conj (.cmp .Eq (.ix (.var 10) (.lit (.int 0))) (.lit (.str (S [108, 101, 110, 100])))) (.cmp .Lt (.var 2) (.bin .Add (.var 8) (.ix (.var 10) (.lit (.int 1)))))) ir__law_state_11 .nil) ir__law_state_8
def ir__law_state_6 : Sms := .cons (.ifs (.cmp .Eq (.ix (.var 10) (.lit (.int 0))) (.lit (.str (S [98, 111, 120])))) ir__law_state_10 .nil) ir__law_state_7
def ir__law_state_5 : Sms := .cons (.ifs (.cmp .Eq (.ix (.var 10) (.lit (.int 0))) (.lit (.str (S [109, 111, 118, 101])))) ir__law_state_9 .nil) ir__law_state_6
def ir__law_state_4 : Sms := .cons (.ifs (.conj (.cmp .Eq (.var 9) (.var 1)) (.cmp .LtE (.var 8) (.var 2))) ir__law_state_5 .nil) .nil
def ir__law_state_3 : Sms := .cons (.ret (.tup (.cons (.ite (.cmp .Is (.var 6) (.lit .non)) (.tup (.cons (.lit (.str (S [114, 111, 111, 109]))) (.cons (.var 4) (.cons (.var 5) .nil)))) (.var 6)) (.cons (.var 7) .nil)))) .nil
def ir__law_state_2 : Sms := .cons (.fors (.tup [.name 8, .name 9, .name 10]) (.ex (.ix (.var 0) (.lit (.int 4)))) ir__law_state_4) ir__law_state_3
def ir__law_state_1 : Sms := .cons (.set (.tup [.name 4, .name 5, .name 6, .name 7]) (.tup (.cons (.ix (.var 3) (.lit (.int 2))) (.cons (.ix (.var 3) (.lit (.int 3))) (.cons (.lit .non) (.cons (.lit .non) .nil)))))) ir__law_state_2
def ir__law_state : Sms := .cons (.set (.name 3) (.ix (.lc (.var 11) [11] (.name 11) (.ex (.ix (.var 0) (.lit (.int 3)))) (.some (.cmp .Eq (.ix (.var 11) (.lit (.int 0))) (.var 1)))) (.lit (.int 0)))) ir__law_state_1
theorem sc__law_state : FnScope ce__law_state.N ["_law_rows", "_law_name", "_law_hour"] (defScope st__law_state) := ⟨rfl, rfl, rfl, by decide +kernel, rfl, by decide +kernel, by decide +kernel⟩
theorem hc__law_state : cS.cSs (cS ce__law_state (defScope st__law_state) (fun _ => true) 40) (defBody st__law_state) = some ir__law_state := by kernel_rfl
/-! law cuts -/
abbrev st__law_cuts : Stmt := topS 25
def ce__law_cuts : CE := { N := ["_law_rows", "_law_name", "_law_found", "_law_at", "_law_other", "_law_deed_here"], cons := [], fns := [], blt := ["sorted", "list"] }
def ir__law_cuts_6 : Sms := .cons (.setI (.var 2) (.bin .Add (.var 3) (.ix (.var 5) (.lit (.int 1)))) (.lit (.bl true))) .nil
def ir__law_cuts_5 : Sms := .cons (.ifs (.cmp .Eq (.ix (.var 5) (.lit (.int 0))) (.lit (.str (S [108, 101, 110, 100])))) ir__law_cuts_6 .nil) .nil
def ir__law_cuts_4 : Sms := .cons (.setI (.var 2) (.var 3) (.lit (.bl true))) ir__law_cuts_5
def ir__law_cuts_3 : Sms := .cons (.ifs (.cmp .Eq (.var 4) (.var 1)) ir__law_cuts_4 .nil) .nil
def ir__law_cuts_2 : Sms := .cons (.ret (.blt .sorted (.cons (.blt .list (.cons (.var 2) .nil)) .nil))) .nil
def ir__law_cuts_1 : Sms := .cons (.fors (.tup [.name 3, .name 4, .name 5]) (.ex (.ix (.var 0) (.lit (.int 4)))) ir__law_cuts_3) ir__law_cuts_2
def ir__law_cuts : Sms := .cons (.set (.name 2) (.dsp (.cons (.lit (.int 0)) (.cons (.lit (.bl true)) .nil)))) ir__law_cuts_1
theorem sc__law_cuts : FnScope ce__law_cuts.N ["_law_rows", "_law_name"] (defScope st__law_cuts) := ⟨rfl, rfl, rfl, by decide +kernel, rfl, by decide +kernel, by decide +kernel⟩
theorem hc__law_cuts : cS.cSs (cS ce__law_cuts (defScope st__law_cuts) (fun _ => true) 40) (defBody st__law_cuts) = some ir__law_cuts := by kernel_rfl
/-! law due -/
abbrev st__law_due : Stmt := topS 26
def ce__law_due : CE := { N := ["_law_rows", "_law_name", "_law_hour", "_law_cuts_here", "_law_found", "_law_first", "_law_behind", "_law_place", "_law_mended", "_law_at"], cons := [], fns := [("_law_cuts", f__law_cuts), ("_law_state", f__law_state)], blt := ["zip"] }
def ir__law_due_5 : Sms := .cons (.expr (.btm (.var 4) .append (.cons (.tup (.cons (.var 5) (.cons (.var 6) (.cons (.var 7) (.cons (.var 8) .nil))))) .nil))) .nil
def ir__law_due_4 : Sms := .cons (.set (.tup [.name 7, .name 8]) (.call f__law_state (.cons (.var 0) (.cons (.var 1) (.cons (.var 5) .nil))))) ir__law_due_5
def ir__law_due_3 : Sms := .cons (.ret (.var 4)) .nil
def ir__law_due_2 : Sms := .cons (.fors (.tup [.name 5, .name 6]) (.zp (.var 3) (.slc (.var 3) (.some (.lit (.int 1))) .none)) ir__law_due_4) ir__law_due_3
def ir__law_due_1 : Sms := .cons (.set (.name 4) (.lst .nil)) ir__law_due_2
def ir__law_due : Sms := .cons (.set (.name 3) (.bin .Add (.lc (.var 9) [9] (.name 9) (.ex (.call f__law_cuts (.cons (.var 0) (.cons (.var 1) .nil)))) (.some (.cmp .Lt (.var 9) (.var 2)))) (.lst (.cons (.var 2) .nil)))) ir__law_due_1
theorem sc__law_due : FnScope ce__law_due.N ["_law_rows", "_law_name", "_law_hour"] (defScope st__law_due) := ⟨rfl, rfl, rfl, by decide +kernel, rfl, by decide +kernel, by decide +kernel⟩
theorem hc__law_due : cS.cSs (cS ce__law_due (defScope st__law_due) (fun _ => true) 40) (defBody st__law_due) = some ir__law_due := by kernel_rfl
/-! law right -/
abbrev st__law_right : Stmt := topS 27
def ce__law_right : CE := { N := ["_law_archive_here", "_law_rows", "_law_name", "_law_hour", "_law_due_here", "_law_turn", "_law_found"], cons := [], fns := [("_law_due", f__law_due), ("stretches", f_stretches), ("_law_alike", f__law_alike)], blt := ["range", "isinstance", "list"] }
def ir__law_right_5 : Sms := .cons (.expr (.btm (.var 6) .append (.cons (.lit (.str (S [109, 111, 114, 101]))) .nil))) .nil
def ir__law_right_4 : Sms := .cons (.ifs (.disj (.inv (.blt .isi (.cons (.var 6) (.cons (.lit (.ty .lst)) .nil)))) (.inv (.call f__law_alike (.cons (.var 6) (.cons (.var 4) .nil))))) (.cons (.ret (.lit (.bl false))) .nil) .nil) ir__law_right_5
def ir__law_right_3 : Sms := .cons (.set (.name 6) (.call f_stretches (.cons (.var 0) (.cons (.var 2) (.cons (.var 3) .nil))))) ir__law_right_4
def ir__law_right_2 : Sms := .cons (.ret (.lit (.bl true))) .nil
def ir__law_right_1 : Sms := .cons (.fors (.name 5) (.rng1 (.lit (.int 2))) ir__law_right_3) ir__law_right_2
def ir__law_right : Sms := .cons (.set (.name 4) (.call f__law_due (.cons (.var 1) (.cons (.var 2) (.cons (.var 3) .nil))))) ir__law_right_1
theorem sc__law_right : FnScope ce__law_right.N ["_law_archive_here", "_law_rows", "_law_name", "_law_hour"] (defScope st__law_right) := ⟨rfl, rfl, rfl, by decide +kernel, rfl, by decide +kernel, by decide +kernel⟩
theorem hc__law_right : cS.cSs (cS ce__law_right (defScope st__law_right) (fun _ => true) 40) (defBody st__law_right) = some ir__law_right := by kernel_rfl
/-! law -/
abbrev st_law : Stmt := topS 28
def ce_law : CE := { N := ["_law_script", "_law_gap", "_law_rows", "_law_archive_here", "_law_hours", "_law_k", "_law_cell", "_law_number", "_law_near", "_law_hour", "_law_row", "_law_many", "_law_event", "_law_far", "_law_late"], cons := [], fns := [("_law_mixed", f__law_mixed), ("_law_cell_at", f__law_cell_at), ("_law_archive", f__law_archive), ("_law_right", f__law_right), ("_law_alike", f__law_alike)], blt := ["enumerate", "max", "min", "len"], cls := [("Archive", (1, f_Archive___init__))], mts := [("told", (14, [(1, f_Archive_told)]))] }
def ir_law_10 : Sms := .cons (.expr (.btm (.var 4) .append (.cons (.blt .max (.cons (.lit (.int 0)) (.cons (.blt .min (.cons (.bin .Pow (.lit (.int 10)) (.lit (.int 9))) (.cons (.bin .Sub (.bin .Add (.ix (.var 8) (.bin .Mod (.var 7) (.blt .len (.cons (.var 8) .nil)))) (.bin .Mod (.bin .FloorDiv (.var 7) (.lit (.int 50))) (.lit (.int 5)))) (.lit (.int 2))) .nil))) .nil))) .nil))) .nil
def ir_law_9 : Sms := .cons (.set (.name 8) (.bin .Add (.lc (.ix (.var 12) (.lit (.int 0))) [12] (.name 12) (.ex (.ix (.var 2) (.lit (.int 4)))) .none) (.lst (.cons (.bin .Mod (.bin .FloorDiv (.var 7) (.lit (.int 40))) (.bin .Pow (.lit (.int 10)) (.lit (.int 9)))) .nil)))) ir_law_10
def ir_law_8 : Sms := .cons (.set (.name 7) (.call f__law_mixed (.cons (.var 6) (.cons (.bin .Add (.var 5) (.lit (.int 70))) .nil)))) ir_law_9
def ir_law_12 : Sms := .cons (.ifs (.inv (.call f__law_right (.cons (.var 3) (.cons (.var 2) (.cons (.ix (.var 10) (.lit (.int 0))) (.cons (.var 9) .nil)))))) (.cons (.ret (.lit (.bl false))) .nil) .nil) .nil
def ir_law_11 : Sms := .cons (.fors (.name 10) (.ex (.ix (.var 2) (.lit (.int 3)))) ir_law_12) .nil
def ir_law_17 : Sms := .cons (.ifs (.inv (.call f__law_right (.cons (.var 14) (.cons (.var 13) (.cons (.ix (.ix (.ix (.var 2) (.lit (.int 3))) (.lit (.int 0))) (.lit (.int 0))) (.cons (.var 9) .nil)))))) (.cons (.ret (.lit (.bl false))) .nil) .nil) .nil
def ir_law_16 : Sms := .cons (.fors (.name 9) (.ex (.tup (.cons (.bin .Add (.bin .Pow (.lit (.int 10)) (.lit (.int 6))) (.lit (.int 8))) (.cons (.bin .Add (.bin .Pow (.lit (.int 10)) (.lit (.int 6))) (.lit (.int 9))) (.cons (.bin .Add (.bin .Pow (.lit (.int 10)) (.lit (.int 6))) (.lit (.int 10))) (.cons (.bin .Sub (.bin .Pow (.lit (.int 10)) (.lit (.int 9))) (.lit (.int 3))) (.cons (.bin .Sub (.bin .Pow (.lit (.int 10)) (.lit (.int 9))) (.lit (.int 2))) (.cons (.bin .Pow (.lit (.int 10)) (.lit (.int 9))) .nil)))))))) ir_law_17) .nil
def ir_law_15 : Sms := .cons (.set (.name 14) (.new 1 f_Archive___init__ (.cons (.ix (.var 13) (.lit (.int 0))) (.cons (.ix (.var 13) (.lit (.int 1))) (.cons (.ix (.var 13) (.lit (.int 2))) (.cons (.ix (.var 13) (.lit (.int 3))) (.cons (.ix (.var 13) (.lit (.int 4))) .nil))))))) ir_law_16
def ir_law_14 : Sms := .cons (.set (.name 13) (.bin .Add (.slc (.var 2) .none (.some (.lit (.int 4)))) (.tup (.cons (.lst (.cons (.var 12) .nil)) .nil)))) ir_law_15
def ir_law_13 : Sms := .cons (.set (.name 12) (.tup (.cons (.lit (.int 2)) (.cons (.ix (.ix (.ix (.var 2) (.lit (.int 3))) (.lit (.int 0))) (.lit (.int 0))) (.cons (.tup (.cons (.lit (.str (S [108, 101, 110, 100]))) (.cons (.var 11) (.cons (.lit (.int 20)) (.cons (.lit (.int 50)) .nil))))) .nil))))) ir_law_14
def ir_law_7 : Sms := .cons (.ret (.call f__law_alike (.cons (.mth (.var 3) 14 [(1, f_Archive_told)] .nil) (.cons (.var 2) .nil)))) .nil
def ir_law_6 : Sms := .cons (.fors (.name 11) (.ex (.tup (.cons (.bin .Add (.bin .Pow (.lit (.int 10)) (.lit (.int 6))) (.lit (.int 7))) (.cons (.bin .Sub (.bin .Pow (.lit (.int 10)) (.lit (.int 9))) (.lit (.int 5))) (.cons (.bin .Pow (.lit (.int 10)) (.lit (.int 9))) .nil))))) ir_law_13) ir_law_7
def ir_law_5 : Sms := .cons (.fors (.name 9) (.ex (.var 4)) ir_law_11) ir_law_6
def ir_law_4 : Sms := .cons (.fors (.tup [.name 5, .name 6]) (.enm (.bin .Add (.slc (.var 0) .none (.some (.lit (.int 30)))) (.lst (.cons (.lit (.int 2)) .nil)))) ir_law_8) ir_law_5
def ir_law_3 : Sms := .cons (.set (.name 4) (.lst (.cons (.lit (.int 0)) (.cons (.lit (.int 1)) (.cons (.bin .Pow (.lit (.int 10)) (.lit (.int 9))) .nil))))) ir_law_4
def ir_law_2 : Sms := .cons (.set (.name 3) (.new 1 f_Archive___init__ (.cons (.ix (.var 2) (.lit (.int 0))) (.cons (.ix (.var 2) (.lit (.int 1))) (.cons (.ix (.var 2) (.lit (.int 2))) (.cons (.ix (.var 2) (.lit (.int 3))) (.cons (.ix (.var 2) (.lit (.int 4))) .nil))))))) ir_law_3
def ir_law_1 : Sms := .cons (.set (.name 2) (.call f__law_archive (.cons (.var 0) (.cons (.lit (.int 40)) (.cons (.var 1) .nil))))) ir_law_2
def ir_law : Sms := .cons (.set (.name 1) (.ix (.lst (.cons (.lit (.int 9)) (.cons (.lit (.int 200)) (.cons (.bin .Pow (.lit (.int 10)) (.lit (.int 7))) .nil)))) (.bin .Mod (.call f__law_mixed (.cons (.call f__law_cell_at (.cons (.var 0) (.cons (.lit (.int 0)) .nil))) (.cons (.lit (.int 4)) .nil))) (.lit (.int 3))))) ir_law_1
theorem sc_law : FnScope ce_law.N ["_law_script"] (defScope st_law) := ⟨rfl, rfl, rfl, by decide +kernel, rfl, by decide +kernel, by decide +kernel⟩
theorem hc_law : cS.cSs (cS ce_law (defScope st_law) (fun _ => true) 40) (defBody st_law) = some ir_law := by kernel_rfl
/-! Path___init__ -/
abbrev st_Path___init__ : Stmt := (clsB (topS 11)).getD 0 (.Pass ⟨0, 0, 0, 0⟩)
def ce_Path___init__ : CE := { N := ["self", "room", "box"], cons := [], fns := [], blt := [], fld := [("room", (0, [0])), ("box", (1, [0])), ("place", (2, [0])), ("first", (3, [0])), ("mended", (4, [0])), ("until", (5, [0])), ("found", (6, [0]))] }
def ir_Path___init___6 : Sms := .cons (.setA (.var 0) 6 [0] (.lst .nil)) .nil
def ir_Path___init___5 : Sms := .cons (.setA (.var 0) 5 [0] (.lit .non)) ir_Path___init___6
def ir_Path___init___4 : Sms := .cons (.setA (.var 0) 4 [0] (.lit .non)) ir_Path___init___5
def ir_Path___init___3 : Sms := .cons (.setA (.var 0) 3 [0] (.lit (.int 0))) ir_Path___init___4
def ir_Path___init___2 : Sms := .cons (.setA (.var 0) 2 [0] (.tup (.cons (.lit (.str (S [114, 111, 111, 109]))) (.cons (.var 1) (.cons (.var 2) .nil))))) ir_Path___init___3
def ir_Path___init___1 : Sms := .cons (.setA (.var 0) 1 [0] (.var 2)) ir_Path___init___2
def ir_Path___init__ : Sms := .cons (.setA (.var 0) 0 [0] (.var 1)) ir_Path___init___1
theorem sc_Path___init__ : FnScope ce_Path___init__.N ["self", "room", "box"] (defScope st_Path___init__) := ⟨rfl, rfl, rfl, by decide +kernel, rfl, by decide +kernel, by decide +kernel⟩
theorem hc_Path___init__ : cS.cSs (cS ce_Path___init__ (defScope st_Path___init__) (fun _ => true) 40) (defBody st_Path___init__) = some ir_Path___init__ := by kernel_rfl
/-! Path_cut_at -/
abbrev st_Path_cut_at : Stmt := (clsB (topS 11)).getD 1 (.Pass ⟨0, 0, 0, 0⟩)
def ce_Path_cut_at : CE := { N := ["self", "hour", "until"], cons := [], fns := [], blt := [], fld := [("until", (5, [0])), ("place", (2, [0])), ("box", (1, [0])), ("room", (0, [0])), ("first", (3, [0])), ("found", (6, [0])), ("mended", (4, [0]))], mts := [("cut_at", (12, [(0, f_Path_cut_at)]))] }
def ir_Path_cut_at_5 : Sms := .cons (.setA (.var 0) 2 [0] (.tup (.cons (.lit (.str (S [114, 111, 111, 109]))) (.cons (.att (.var 0) 0 [0]) (.cons (.att (.var 0) 1 [0]) .nil))))) .nil
def ir_Path_cut_at_4 : Sms := .cons (.expr (.mth (.var 0) 12 [(0, f_Path_cut_at)] (.cons (.var 2) .nil))) ir_Path_cut_at_5
def ir_Path_cut_at_3 : Sms := .cons (.setA (.var 0) 5 [0] (.lit .non)) ir_Path_cut_at_4
def ir_Path_cut_at_2 : Sms := .cons (.set (.name 2) (.att (.var 0) 5 [0])) ir_Path_cut_at_3
def ir_Path_cut_at_8 : Sms := .cons (.setA (.var 0) 4 [0] (.lit .non)) .nil
def ir_Path_cut_at_7 : Sms := .cons (.setA (.var 0) 3 [0] (.var 1)) ir_Path_cut_at_8
def ir_Path_cut_at_6 : Sms := .cons (.expr (.btm (.att (.var 0) 6 [0]) .append (.cons (.tup (.cons (.att (.var 0) 3 [0]) (.cons (.var 1) (.cons (.att (.var 0) 2 [0]) (.cons (.att (.var 0) 4 [0]) .nil))))) .nil))) ir_Path_cut_at_7
def ir_Path_cut_at_1 : Sms := .cons (.ifs (.cmp .Gt (.var 1) (.att (.var 0) 3 [0])) ir_Path_cut_at_6 .nil) .nil
def ir_Path_cut_at : Sms := .cons (.ifs (.conj (.cmp .IsNot (.att (.var 0) 5 [0]) (.lit .non)) (.cmp .LtE (.att (.var 0) 5 [0]) (.var 1))) ir_Path_cut_at_2 .nil) ir_Path_cut_at_1
theorem sc_Path_cut_at : FnScope ce_Path_cut_at.N ["self", "hour"] (defScope st_Path_cut_at) := ⟨rfl, rfl, rfl, by decide +kernel, rfl, by decide +kernel, by decide +kernel⟩
theorem hc_Path_cut_at : cS.cSs (cS ce_Path_cut_at (defScope st_Path_cut_at) (fun _ => true) 40) (defBody st_Path_cut_at) = some ir_Path_cut_at := by kernel_rfl
/-! Path_event_done -/
abbrev st_Path_event_done : Stmt := (clsB (topS 11)).getD 2 (.Pass ⟨0, 0, 0, 0⟩)
def ce_Path_event_done : CE := { N := ["self", "hour", "deed"], cons := [], fns := [], blt := [], fld := [("mended", (4, [0])), ("place", (2, [0])), ("until", (5, [0])), ("room", (0, [0])), ("box", (1, [0]))], mts := [("cut_at", (12, [(0, f_Path_cut_at)]))] }
def ir_Path_event_done_2 : Sms := .cons (.setA (.var 0) 4 [0] (.ix (.var 2) (.lit (.int 1)))) .nil
def ir_Path_event_done_5 : Sms := .cons (.setA (.var 0) 5 [0] (.bin .Add (.var 1) (.ix (.var 2) (.lit (.int 1))))) .nil
def ir_Path_event_done_4 : Sms := .cons (.setA (.var 0) 2 [0] (.tup (.cons (.lit (.str (S [97, 119, 97, 121]))) (.cons (.ix (.var 2) (.lit (.int 2))) (.cons (.ix (.var 2) (.lit (.int 3))) .nil))))) ir_Path_event_done_5
def ir_Path_event_done_8 : Sms := .cons (.setA (.var 0) 0 [0] (.ix (.var 2) (.lit (.int 1)))) .nil
def ir_Path_event_done_9 : Sms := .cons (.setA (.var 0) 1 [0] (.ix (.var 2) (.lit (.int 1)))) .nil
def ir_Path_event_done_7 : Sms := .cons (.setA (.var 0) 2 [0] (.tup (.cons (.lit (.str (S [114, 111, 111, 109]))) (.cons (.att (.var 0) 0 [0]) (.cons (.att (.var 0) 1 [0]) .nil))))) .nil
def ir_Path_event_done_6 : Sms := .cons (.ifs (.cmp .Eq (.ix (.var 2) (.lit (.int 0))) (.lit (.str (S [109, 111, 118, 101])))) ir_Path_event_done_8 ir_Path_event_done_9) ir_Path_event_done_7
def ir_Path_event_done_3 : Sms := .cons (.ifs (.cmp .Eq (.ix (.var 2) (.lit (.int 0))) (.lit (.str (S [108, 101, 110, 100])))) ir_Path_event_done_4 ir_Path_event_done_6) .nil
def ir_Path_event_done_1 : Sms := .cons (.ifs (.cmp .Eq (.ix (.var 2) (.lit (.int 0))) (.lit (.str (S [109, 101, 110, 100])))) ir_Path_event_done_2 ir_Path_event_done_3) .nil
def ir_Path_event_done : Sms := .cons (.expr (.mth (.var 0) 12 [(0, f_Path_cut_at)] (.cons (.var 1) .nil))) ir_Path_event_done_1
theorem sc_Path_event_done : FnScope ce_Path_event_done.N ["self", "hour", "deed"] (defScope st_Path_event_done) := ⟨rfl, rfl, rfl, by decide +kernel, rfl, by decide +kernel, by decide +kernel⟩
theorem hc_Path_event_done : cS.cSs (cS ce_Path_event_done (defScope st_Path_event_done) (fun _ => true) 40) (defBody st_Path_event_done) = some ir_Path_event_done := by kernel_rfl
/-! Archive___init__ -/
abbrev st_Archive___init__ : Stmt := (clsB (topS 14)).getD 0 (.Pass ⟨0, 0, 0, 0⟩)
def ce_Archive___init__ : CE := { N := ["self", "kinds", "rooms", "boxes", "things", "events"], cons := [], fns := [], blt := ["list"], fld := [("told_kinds", (7, [1])), ("told_rooms", (8, [1])), ("told_boxes", (9, [1])), ("told_things", (10, [1])), ("told_events", (11, [1]))] }
def ir_Archive___init___4 : Sms := .cons (.setA (.var 0) 11 [1] (.blt .list (.cons (.var 5) .nil))) .nil
def ir_Archive___init___3 : Sms := .cons (.setA (.var 0) 10 [1] (.blt .list (.cons (.var 4) .nil))) ir_Archive___init___4
def ir_Archive___init___2 : Sms := .cons (.setA (.var 0) 9 [1] (.blt .list (.cons (.var 3) .nil))) ir_Archive___init___3
def ir_Archive___init___1 : Sms := .cons (.setA (.var 0) 8 [1] (.blt .list (.cons (.var 2) .nil))) ir_Archive___init___2
def ir_Archive___init__ : Sms := .cons (.setA (.var 0) 7 [1] (.blt .list (.cons (.var 1) .nil))) ir_Archive___init___1
theorem sc_Archive___init__ : FnScope ce_Archive___init__.N ["self", "kinds", "rooms", "boxes", "things", "events"] (defScope st_Archive___init__) := ⟨rfl, rfl, rfl, by decide +kernel, rfl, by decide +kernel, by decide +kernel⟩
theorem hc_Archive___init__ : cS.cSs (cS ce_Archive___init__ (defScope st_Archive___init__) (fun _ => true) 40) (defBody st_Archive___init__) = some ir_Archive___init__ := by kernel_rfl
/-! Archive_told -/
abbrev st_Archive_told : Stmt := (clsB (topS 14)).getD 1 (.Pass ⟨0, 0, 0, 0⟩)
def ce_Archive_told : CE := { N := ["self", "first"], cons := [], fns := [], blt := ["list"], fld := [("told_boxes", (9, [1])), ("told_rooms", (8, [1])), ("told_kinds", (7, [1])), ("told_events", (11, [1])), ("told_things", (10, [1]))] }
def ir_Archive_told_1 : Sms := .cons (.ret (.bin .Add (.var 1) (.tup (.cons (.blt .list (.cons (.att (.var 0) 10 [1]) .nil)) (.cons (.blt .list (.cons (.att (.var 0) 11 [1]) .nil)) .nil))))) .nil
def ir_Archive_told : Sms := .cons (.set (.name 1) (.tup (.cons (.blt .list (.cons (.att (.var 0) 7 [1]) .nil)) (.cons (.blt .list (.cons (.att (.var 0) 8 [1]) .nil)) (.cons (.blt .list (.cons (.att (.var 0) 9 [1]) .nil)) .nil))))) ir_Archive_told_1
theorem sc_Archive_told : FnScope ce_Archive_told.N ["self"] (defScope st_Archive_told) := ⟨rfl, rfl, rfl, by decide +kernel, rfl, by decide +kernel, by decide +kernel⟩
theorem hc_Archive_told : cS.cSs (cS ce_Archive_told (defScope st_Archive_told) (fun _ => true) 40) (defBody st_Archive_told) = some ir_Archive_told := by kernel_rfl
end Y

namespace Y
open PySem PySem.Spec PyProof.Rows L2
local macro_rules | `(tactic| walk_at "y1") => `(tactic| simp only [wpS, wpE, wpEs, wpO, wpC, wpI, biU, binU, cmpU, intU, isB, partU, gU, gsU, startU, DF, insU, List.map_cons, List.map_nil, List.length_cons, List.length_nil, List.cons_append, List.nil_append, List.replicate, List.getElem?_cons_zero, List.getElem?_cons_succ, List.set_cons_zero, List.set_cons_succ, true_and, and_true, if_true, Bool.false_eq_true, if_false, Nat.reduceAdd, Nat.reduceSub, w_nil])
/-! ### numbers -/
def mix0 (c k : Int) : Int := c % 10 ^ 30 + 7919 * k + 13
def mixI (c k : Int) : Int := if 10 ^ 18 ≤ c then mix0 c k * mix0 c k % 618970019642690137449562111 else mix0 c k * mix0 c k % 1000000007 * 48271 % 998244353 / 11
def sp_mixed : SpU := fun us G Q _ => ∃ c k, us = [.int c, .int k] ∧ 0 ≤ k ∧ k ≤ 1000 ∧ Q (.int (mixI c k)) G
theorem mixI_nn (c k : Int) : 0 ≤ mixI c k ∧ mixI c k < 618970019642690137449562111 := by
  unfold mixI
  split
  · exact ⟨Int.emod_nonneg _ (by decide), Int.emod_lt_of_pos _ (by decide)⟩
  · have h1 := Int.emod_nonneg (mix0 c k * mix0 c k % 1000000007 * 48271) (show (998244353 : Int) ≠ 0 by decide)
    have h2 := Int.emod_lt_of_pos (mix0 c k * mix0 c k % 1000000007 * 48271) (show (0 : Int) < 998244353 by decide)
    omega
theorem w_mixed {Γ : Gm} {E : XS} {us : List U} {G : Gp} {Q : UK} {X : XU} (h : sp_mixed us G Q X) : wpSs Γ E ir__law_mixed (DF Q) (startU ce__law_mixed.N us) G := by
  obtain ⟨c, k, rfl, h0, h1, q⟩ := h
  unfold ce__law_mixed
  refine w_cons ?_
  walk_at "y1"
  simp only [addU, mulU]
  have e30 : (10 : Int) ^ (30 : Int).toNat = 10 ^ 30 := rfl
  have e18 : (10 : Int) ^ (18 : Int).toNat = 10 ^ 18 := rfl
  have hc := Int.emod_nonneg c (show ((10 : Int) ^ 30) ≠ 0 by decide)
  have hc2 := Int.emod_lt_of_pos c (show (0 : Int) < 10 ^ 30 by decide)
  refine ⟨by decide, by rw [e30]; decide, mul_l (by decide) (by decide), w_go (w_cons ?_)⟩
  walk_at "y1"
  rw [e30, e18]
  refine ⟨by decide, ?_⟩
  have b1 : 0 ≤ mix0 c k ∧ mix0 c k < 2 ^ 101 := by unfold mix0; omega
  have mo : MulOk (mix0 c k) (mix0 c k) := mul_big (by omega) (by omega)
  show if decide (10 ^ 18 ≤ c) = true then _ else _
  have em : c % 10 ^ 30 + 7919 * k + 13 = mix0 c k := rfl
  by_cases hb : 10 ^ 18 ≤ c
  · rw [if_pos (decide_eq_true hb)]
    refine w_cons ?_
    walk_at "y1"
    simp only [mulU, em]
    refine ⟨mo, by decide, w_go ?_⟩
    have e : mixI c k = mix0 c k * mix0 c k % 618970019642690137449562111 := by unfold mixI; rw [if_pos hb]
    rw [← e]
    exact q
  · rw [if_neg (by simpa using hb)]
    refine w_go (w_cons ?_)
    walk_at "y1"
    simp only [mulU, em]
    refine ⟨mo, by decide, mul_r (by decide) (by decide), by decide, ⟨by decide, by decide⟩, w_go ?_⟩
    have e : mixI c k = mix0 c k * mix0 c k % 1000000007 * 48271 % 998244353 / 11 := by unfold mixI; rw [if_neg hb]
    rw [← e]
    exact q
/-! ### a cell of the script -/
def cellAt (ns : List Int) (k : Int) : Int := if ns = [] then k else ns.getD (k % (ns.length : Int)).toNat 0
def sp_cell : SpU := fun us G Q _ => ∃ ns k, us = [.rl ((ns : List Int).map U.int), .int k] ∧ ns.length ≤ 63 ∧ Q (.int (cellAt ns k)) G
theorem dat_ints {n : Nat} {G : Gp} (ns : List Int) : datL (dat (n + 1) G) (ns.map U.int) = some (ns.map PyData.int) := datL_map _ _ ns fun x _ => rfl
theorem canLay_ints : ∀ ns : List Int, PyData.canLayAll0 (ns.map PyData.int) = true
  | [] => rfl
  | z :: zs => by
    rw [List.map_cons, PyData.canLayAll0, canLay_ints zs]
    rfl
theorem depth_ints : ∀ ns : List Int, PyData.depthAll (ns.map PyData.int) = 0
  | [] => rfl
  | z :: zs => by
    rw [List.map_cons, PyData.depthAll, depth_ints zs]
    rfl
theorem shaped_ints (ns : List Int) : SeqAt.shaped (.list (ns.map PyData.int)) = true := by
  unfold SeqAt.shaped
  rw [PyData.canLay0, canLay_ints, PyData.depth, depth_ints]
  rfl
theorem at_some {α : Type} {xs : List α} {i : Int} (h0 : 0 ≤ i) (h1 : i < xs.length) : ∃ x, xs[i.toNat]? = some x ∧ atI xs i = some x := by
  have hlt : i.toNat < xs.length := by omega
  refine ⟨xs[i.toNat], List.getElem?_eq_getElem hlt, ?_⟩
  have e := atI_nat (List.getElem?_eq_getElem hlt)
  rw [Int.toNat_of_nonneg h0] at e
  exact e
theorem w_cell {Γ : Gm} {E : XS} {us : List U} {G : Gp} {Q : UK} {X : XU} (h : sp_cell us G Q X) : wpSs Γ E ir__law_cell_at (DF Q) (startU ce__law_cell_at.N us) G := by
  obtain ⟨ns, k, rfl, hl, q⟩ := h
  unfold ce__law_cell_at
  refine w_cons ?_
  walk_at "y1"
  refine ⟨by decide, fun p np => ?_⟩
  have e1 : dat 20 (put G p (.lst [])) (.rl (ns.map U.int)) = some (.list (ns.map PyData.int)) := by
    show (match datL (dat 19 (put G p (.lst []))) (ns.map U.int) with
      | some ds => some (PyData.list ds)
      | none => none) = _
    rw [dat_ints]
  have e2 : dat 20 (put G p (.lst [])) (.ref p) = some (.list []) := by
    show (match lsG (put G p (.lst []) p) with
      | some xs => match datL (dat 19 (put G p (.lst []))) xs with
        | some ds => some (PyData.list ds)
        | none => none
      | none => none) = _
    rw [put_same]
    rfl
  unfold eqU
  rw [if_neg (by simp [scU])]
  unfold eqD
  rw [e1, e2]
  refine ⟨shaped_ints ns, by decide +kernel, ?_⟩
  cases ns with
  | nil =>
    have ee : PyData.eqv (.list (([] : List Int).map PyData.int)) (.list []) = true := rfl
    simp only [ee, Bool.not_true, if_true, Bool.false_eq_true, if_false]
    exact ⟨_, Sub.put np, q⟩
  | cons n ns =>
    have ee : PyData.eqv (.list ((n :: ns).map PyData.int)) (.list []) = false := rfl
    simp only [ee, Bool.not_false, if_true]
    simp only [lenU, rdL, ixU]
    have hp : (0 : Int) < ((((n :: ns).map U.int).length : Nat) : Int) := by rw [List.length_map, List.length_cons]; omega
    refine ⟨hp, ?_⟩
    obtain ⟨x, h1, h2⟩ := at_some (xs := (n :: ns).map U.int) (Int.emod_nonneg k (Int.ne_of_gt hp)) (Int.emod_lt_of_pos k hp)
    show partU (.int (k % ((((n :: ns).map U.int).length : Nat) : Int))) _
    simp only [partU]
    rw [h2]
    refine ⟨_, Sub.put np, ?_⟩
    have ex : x = .int (cellAt (n :: ns) k) := by
      unfold cellAt
      rw [if_neg (by simp)]
      rw [List.getElem?_map, List.length_map] at h1
      rw [List.getD_eq_getElem?_getD]
      cases hh : (n :: ns)[(k % (((n :: ns).length : Nat) : Int)).toNat]? with
      | none => rw [hh] at h1; cases h1
      | some y => rw [hh] at h1; cases h1; rfl
    rw [ex]
    exact q
end Y

namespace Y
open PySem PySem.Spec PyProof.Rows L2
local macro_rules | `(tactic| walk_at "y1") => `(tactic| simp only [wpS, wpE, wpEs, wpO, wpC, wpI, binU, cmpU, intU, isB, partU, gU, gsU, startU, DF, List.map_cons, List.map_nil, List.length_cons, List.length_nil, List.cons_append, List.nil_append, List.replicate, List.getElem?_cons_zero, List.getElem?_cons_succ, List.set_cons_zero, List.set_cons_succ, true_and, and_true, if_true, Bool.false_eq_true, if_false, Nat.reduceAdd, Nat.reduceSub, w_nil])
/-! ### small checks -/
def sp_among : SpU := fun us G Q _ => ∃ i l m, us = [.int i, .int l, .int m] ∧ Q (.bl (decide (l ≤ i) && decide (i ≤ m))) G
theorem w_among {Γ : Gm} {E : XS} {us : List U} {G : Gp} {Q : UK} {X : XU} (h : sp_among us G Q X) : wpSs Γ E ir_is_among (DF Q) (startU ce_is_among.N us) G := by
  obtain ⟨i, l, m, rfl, q⟩ := h
  unfold ce_is_among
  refine w_cons ?_
  walk_at "y1"
  refine bi_isi (m := .int) rfl ?_
  simp only [BT.sub, decide_true, if_true]
  refine bi_isi (m := .int) rfl ?_
  simp only [BT.sub, reduceCtorEq, decide_false, Bool.not_false, if_true]
  by_cases hl : l ≤ i
  · rw [decide_eq_true hl] at q ⊢
    simp only [if_true]
    rw [Bool.true_and] at q
    exact w_go q
  · rw [decide_eq_false hl] at q ⊢
    simp only [Bool.false_eq_true, if_false]
    rw [Bool.false_and] at q
    exact w_go q
def sp_need : SpU := fun us G Q _ => us = [.bl true] ∧ Q .non G
theorem w_need {Γ : Gm} {E : XS} {us : List U} {G : Gp} {Q : UK} {X : XU} (h : sp_need us G Q X) : wpSs Γ E ir_need (DF Q) (startU ce_need.N us) G := by
  obtain ⟨rfl, q⟩ := h
  unfold ce_need
  refine w_cons ?_
  walk_at "y1"
  simp only [Bool.not_true, Bool.false_eq_true, if_false]
  exact w_go (w_go q)
def sp_moment : SpU := fun us G Q _ => ∃ h, us = [.int h] ∧ 0 ≤ h ∧ h ≤ 1000000000 ∧ Q .non G
theorem w_moment {Γ : Gm} {E : XS} {us : List U} {G : Gp} {Q : UK} {X : XU} (f1 : Γ.fn f_need = sp_need) (a1 : Γ.ar f_need = 1) (f2 : Γ.fn f_is_among = sp_among) (a2 : Γ.ar f_is_among = 3) (h : sp_moment us G Q X) : wpSs Γ E ir_need_moment (DF Q) (startU ce_need_moment.N us) G := by
  obtain ⟨i, rfl, h0, h1, q⟩ := h
  unfold ce_need_moment
  refine w_cons ?_
  walk_at "y1"
  rw [f1, a1, f2, a2]
  refine ⟨rfl, i, 0, 1000000000, rfl, rfl, ?_, w_go (w_go q)⟩
  rw [decide_eq_true h0, decide_eq_true h1]
  rfl
/-! ### rows by name -/
def nmOf : U → Option Str
  | .tup (.str n :: _) => some n
  | _ => none
def fdN (n : Str) : List U → Option U
  | [] => none
  | r :: rs => if nmOf r = some n then some r else fdN n rs
def sp_row_of : SpU := fun us G Q _ => ∃ l rs n r, us = [.ref l, .str n] ∧ G l = some (.lst rs) ∧ (∀ x ∈ rs, ∃ m, nmOf x = some m) ∧ fdN n rs = some r ∧ Q r G
theorem nmOf_tup {x : U} {m : Str} (h : nmOf x = some m) : ∃ r, x = .tup (.str m :: r) := by
  cases x with
  | tup xs =>
    cases xs with
    | nil => cases h
    | cons y ys =>
      cases y <;> first
        | (cases h; done)
        | (cases h; exact ⟨ys, rfl⟩)
  | _ => cases h
theorem w_row_of {Γ : Gm} {E : XS} {us : List U} {G : Gp} {Q : UK} {X : XU} (h : sp_row_of us G Q X) : wpSs Γ E ir_row_of (DF Q) (startU ce_row_of.N us) G := by
  obtain ⟨l, rs, n, r, rfl, hl, hn, hf, q⟩ := h
  unfold ce_row_of
  refine w_cons ?_
  walk_at "y1"
  refine seq_l hl ?_
  have key : ∀ (rs' : List U) (s2 : Option U), (∀ x ∈ rs', ∃ m, nmOf x = some m) → fdN n rs' = some r → loopU (gU (.name 2)) (wpSs Γ E ir_row_of_2) (fun G' => lsG (G' l) = some rs) rs' { nx := fun σ' G' => ∃ G2, Sub G2 G' ∧ wpSs Γ E ir_row_of_1 { nx := fun _ G' => ∃ G2, Sub G2 G' ∧ Q .non G2, rt := fun u G' => ∃ G2, Sub G2 G' ∧ Q u G2 } σ' G2, rt := fun u G' => ∃ G2, Sub G2 G' ∧ Q u G2 } [some (.ref l), some (.str n), s2] G := by
    intro rs'
    induction rs' with
    | nil => intro s2 _ h; cases h
    | cons x xs ih =>
      intro s2 hn hf
      obtain ⟨m, hm⟩ := hn x List.mem_cons_self
      obtain ⟨y, rfl⟩ := nmOf_tup hm
      refine ⟨lsG_of hl, ?_⟩
      simp only [gU, List.set_cons_succ, List.set_cons_zero]
      refine w_cons ?_
      walk_at "y1"
      refine bi_isi (m := .str) rfl ?_
      simp only [BT.sub, decide_true, if_true]
      refine ix_t (atI_nat (j := 0) rfl) ?_
      simp only [eqU, scU, eqSc, if_true]
      unfold fdN at hf
      rw [hm] at hf
      by_cases e : m = n
      · rw [if_pos (by rw [e])] at hf
        cases hf
        simp only [e, decide_true, if_true, Bool.false_eq_true, if_false]
        refine w_cons ?_
        walk_at "y1"
        rw [← e]
        exact w_go q
      · rw [if_neg (by intro z; exact e (Option.some.inj z))] at hf
        simp only [e, decide_false, if_false, Bool.false_eq_true]
        exact w_go (ih _ (fun z hz => hn z (List.mem_cons_of_mem _ hz)) hf)
  exact key rs none hn hf
/-! ### the archive -/
def arcO (k r b t e : Addr) : GO := .ins 1 [(7, .ref k), (8, .ref r), (9, .ref b), (10, .ref t), (11, .ref e)]
structure IsArc (G : Gp) (a : Addr) (ks rs bs ts es : List U) : Prop where
  ex : ∃ k r b t e, G a = some (arcO k r b t e) ∧ G k = some (.lst ks) ∧ G r = some (.lst rs) ∧ G b = some (.lst bs) ∧ G t = some (.lst ts) ∧ G e = some (.lst es)
theorem IsArc.mono {G G' : Gp} {a : Addr} {ks rs bs ts es : List U} (h : IsArc G a ks rs bs ts es) (s : Sub G G') : IsArc G' a ks rs bs ts es := by
  obtain ⟨k, r, b, t, e, h0, h1, h2, h3, h4, h5⟩ := h.ex
  exact ⟨k, r, b, t, e, s _ _ h0, s _ _ h1, s _ _ h2, s _ _ h3, s _ _ h4, s _ _ h5⟩
def sp_told : SpU := fun us G Q _ => ∃ a ks rs bs ts es, us = [.ref a] ∧ IsArc G a ks rs bs ts es ∧ ∀ G' p1 p2 p3 p4 p5, Sub G G' → G' p1 = some (.lst ks) → G' p2 = some (.lst rs) → G' p3 = some (.lst bs) → G' p4 = some (.lst ts) → G' p5 = some (.lst es) → (∀ p ∈ [p1, p2, p3, p4, p5], G p = none) →
  Q (.tup [.ref p1, .ref p2, .ref p3, .ref p4, .ref p5]) G'
theorem Sub.none {G G' : Gp} {p : Addr} (s : Sub G G') (n : G' p = none) : G p = none := by
  cases h : G p with
  | none => rfl
  | some o => rw [s _ _ h] at n; cases n
theorem put_sub {G : Gp} {p : Addr} {o : GO} (n : G p = none) : Sub G (put G p o) := Sub.put n
theorem w_told {Γ : Gm} {E : XS} {us : List U} {G : Gp} {Q : UK} {X : XU} (h : sp_told us G Q X) : wpSs Γ E ir_Archive_told (DF Q) (startU ce_Archive_told.N us) G := by
  obtain ⟨a, ks, rs, bs, ts, es, rfl, hA, q⟩ := h
  obtain ⟨k, r, b, t, e, h0, h1, h2, h3, h4, h5⟩ := hA.ex
  unfold ce_Archive_told
  refine w_cons ?_
  walk_at "y1"
  refine att_of h0 rfl rfl ?_
  refine bi_list h1 fun p1 n1 => ?_
  have s1 := Sub.put (o := .lst ks) n1
  refine att_of (s1 _ _ h0) rfl rfl ?_
  refine bi_list (s1 _ _ h2) fun p2 n2 => ?_
  have s2 := s1.trans (Sub.put (o := .lst rs) n2)
  refine att_of (s2 _ _ h0) rfl rfl ?_
  refine bi_list (s2 _ _ h3) fun p3 n3 => ?_
  have s3 := s2.trans (Sub.put (o := .lst bs) n3)
  refine ⟨by decide, w_go (w_cons ?_)⟩
  walk_at "y1"
  refine att_of (s3 _ _ h0) rfl rfl ?_
  refine bi_list (s3 _ _ h4) fun p4 n4 => ?_
  have s4 := s3.trans (Sub.put (o := .lst ts) n4)
  refine att_of (s4 _ _ h0) rfl rfl ?_
  refine bi_list (s4 _ _ h5) fun p5 n5 => ?_
  have u5 := Sub.put (o := .lst es) n5
  have u4 := (Sub.put (o := .lst ts) n4).trans u5
  have u3 := (Sub.put (o := .lst bs) n3).trans u4
  have u2 := (Sub.put (o := .lst rs) n2).trans u3
  refine ⟨by decide, ?_⟩
  simp only [addU]
  exact ⟨(by decide : (5 : Nat) ≤ sizeLine), w_go (q _ p1 p2 p3 p4 p5 (s4.trans u5) (u2 _ _ put_same) (u3 _ _ put_same) (u4 _ _ put_same) (u5 _ _ put_same) put_same fun p hp => by
    simp only [List.mem_cons, List.not_mem_nil, or_false] at hp
    rcases hp with rfl | rfl | rfl | rfl | rfl
    · exact n1
    · exact s1.none n2
    · exact s2.none n3
    · exact s3.none n4
    · exact s4.none n5)⟩
def sp_ainit : SpU := fun us G Q _ => ∃ a k r b t e ks rs bs ts es, us = [.ref a, .ref k, .ref r, .ref b, .ref t, .ref e] ∧ G a = some (.ins 1 []) ∧ G k = some (.lst ks) ∧ G r = some (.lst rs) ∧ G b = some (.lst bs) ∧ G t = some (.lst ts) ∧ G e = some (.lst es) ∧
  ∀ G', (∀ x o, x ≠ a → G x = some o → G' x = some o) → IsArc G' a ks rs bs ts es → Q .non G'
/-- but for one address -/
def SubX (a : Addr) (G G' : Gp) : Prop := ∀ x o, x ≠ a → G x = some o → G' x = some o
theorem SubX.refl (a : Addr) (G : Gp) : SubX a G G := fun _ _ _ h => h
theorem SubX.trans {a : Addr} {A B C : Gp} (x : SubX a A B) (y : SubX a B C) : SubX a A C := fun z o h e => y z o h (x z o h e)
theorem SubX.step {a p : Addr} {G G' : Gp} {o o' : GO} (s : SubX a G G') (n : G' p = none) : SubX a G (put (put G' p o) a o') := fun x u hx h => by
  rw [put_ne hx, put_ne]
  · exact s x u hx h
  · intro z
    subst z
    rw [s _ _ hx h] at n
    cases n
theorem put_at {a p : Addr} {G : Gp} {o o' : GO} (h : G a = some o) (n : G p = none) : put G p o' a = some o := by
  rw [put_ne]
  · exact h
  · intro z
    subst z
    rw [h] at n
    cases n
theorem ne_of {a p : Addr} {G : Gp} {o : GO} (h : G a = some o) (n : G p = none) : p ≠ a := fun z => by
  subst z
  rw [h] at n
  cases n
theorem w_ainit {Γ : Gm} {E : XS} {us : List U} {G : Gp} {Q : UK} {X : XU} (h : sp_ainit us G Q X) : wpSs Γ E ir_Archive___init__ (DF Q) (startU ce_Archive___init__.N us) G := by
  obtain ⟨a, k, r, b, t, e, ks, rs, bs, ts, es, rfl, h0, h1, h2, h3, h4, h5, q⟩ := h
  have nk : k ≠ a := fun z => by subst z; rw [h0] at h1; cases h1
  have nr : r ≠ a := fun z => by subst z; rw [h0] at h2; cases h2
  have nb : b ≠ a := fun z => by subst z; rw [h0] at h3; cases h3
  have nt : t ≠ a := fun z => by subst z; rw [h0] at h4; cases h4
  have ne : e ≠ a := fun z => by subst z; rw [h0] at h5; cases h5
  unfold ce_Archive___init__
  refine w_cons ?_
  walk_at "y1"
  refine bi_list h1 fun p1 n1 => ins_of (put_at h0 n1) ⟨rfl, by decide, w_go (w_cons ?_)⟩
  have z0 : SubX a G G := fun _ _ _ h => h
  have z1 := z0.step (o := .lst ks) (o' := .ins 1 (putN 7 (.ref p1) [])) n1
  walk_at "y1"
  refine bi_list (z1 _ _ nr h2) fun p2 n2 => ins_of (put_at put_same n2) ⟨rfl, (by decide : (1 : Nat) < 1000), w_go (w_cons ?_)⟩
  have z2 := z1.step (o := .lst rs) (o' := .ins 1 (putN 8 (.ref p2) (putN 7 (.ref p1) []))) n2
  walk_at "y1"
  refine bi_list (z2 _ _ nb h3) fun p3 n3 => ins_of (put_at put_same n3) ⟨rfl, (by decide : (2 : Nat) < 1000), w_go (w_cons ?_)⟩
  have z3 := z2.step (o := .lst bs) (o' := .ins 1 (putN 9 (.ref p3) (putN 8 (.ref p2) (putN 7 (.ref p1) [])))) n3
  walk_at "y1"
  refine bi_list (z3 _ _ nt h4) fun p4 n4 => ins_of (put_at put_same n4) ⟨rfl, (by decide : (3 : Nat) < 1000), w_go (w_cons ?_)⟩
  have z4 := z3.step (o := .lst ts) (o' := .ins 1 (putN 10 (.ref p4) (putN 9 (.ref p3) (putN 8 (.ref p2) (putN 7 (.ref p1) []))))) n4
  walk_at "y1"
  refine bi_list (z4 _ _ ne h5) fun p5 n5 => ins_of (put_at put_same n5) ⟨rfl, (by decide : (4 : Nat) < 1000), w_go ?_⟩
  have z5 := z4.step (o := .lst es) (o' := .ins 1 (putN 11 (.ref p5) (putN 10 (.ref p4) (putN 9 (.ref p3) (putN 8 (.ref p2) (putN 7 (.ref p1) [])))))) n5
  have i1 : p1 ≠ a := ne_of h0 n1
  have i2 : p2 ≠ a := ne_of put_same n2
  have i3 : p3 ≠ a := ne_of put_same n3
  have i4 : p4 ≠ a := ne_of put_same n4
  have i5 : p5 ≠ a := ne_of put_same n5
  have y2 := (SubX.refl a (put (put G p1 (.lst ks)) a (.ins 1 (putN 7 (.ref p1) [])))).step (o := .lst rs) (o' := .ins 1 (putN 8 (.ref p2) (putN 7 (.ref p1) []))) n2
  have y3 := (SubX.refl a _).step (o := .lst bs) (o' := .ins 1 (putN 9 (.ref p3) (putN 8 (.ref p2) (putN 7 (.ref p1) [])))) n3
  have y4 := (SubX.refl a _).step (o := .lst ts) (o' := .ins 1 (putN 10 (.ref p4) (putN 9 (.ref p3) (putN 8 (.ref p2) (putN 7 (.ref p1) []))))) n4
  have y5 := (SubX.refl a _).step (o := .lst es) (o' := .ins 1 (putN 11 (.ref p5) (putN 10 (.ref p4) (putN 9 (.ref p3) (putN 8 (.ref p2) (putN 7 (.ref p1) [])))))) n5
  refine w_go (q _ z5 ⟨p1, p2, p3, p4, p5, put_same, ?_, ?_, ?_, ?_, ?_⟩)
  · exact ((y2.trans y3).trans (y4.trans y5)) _ _ i1 (by rw [put_ne i1, put_same])
  · exact (y3.trans (y4.trans y5)) _ _ i2 (by rw [put_ne i2, put_same])
  · exact (y4.trans y5) _ _ i3 (by rw [put_ne i3, put_same])
  · exact y5 _ _ i4 (by rw [put_ne i4, put_same])
  · rw [put_ne i5, put_same]
/-! ### the row of a thing -/
def sp_thing_row : SpU := fun us G Q _ => ∃ a ks rs bs ts es n r, us = [.ref a, .str n] ∧ IsArc G a ks rs bs ts es ∧ (∀ x ∈ ts, ∃ m, nmOf x = some m) ∧ fdN n ts = some r ∧ Q r G
theorem w_thing_row {Γ : Gm} {E : XS} {us : List U} {G : Gp} {Q : UK} {X : XU} (f1 : Γ.fn f_row_of = sp_row_of) (a1 : Γ.ar f_row_of = 2) (f2 : Γ.fn f_Archive_told = sp_told) (a2 : Γ.ar f_Archive_told = 1) (h : sp_thing_row us G Q X) : wpSs Γ E ir_thing_row (DF Q) (startU ce_thing_row.N us) G := by
  obtain ⟨a, ks, rs, bs, ts, es, n, r, rfl, hA, hn, hf, q⟩ := h
  obtain ⟨k1, r1, b1, t1, e1, h0, _⟩ := hA.ex
  unfold ce_thing_row
  refine w_cons ?_
  walk_at "y1"
  refine ins_of h0 ⟨rfl, ?_⟩
  simp only [List.lookup, BEq.rfl, f2, a2, true_and]
  refine ⟨a, ks, rs, bs, ts, es, rfl, hA, fun G' p1 p2 p3 p4 p5 s e1 e2 e3 e4 e5 _ => ?_⟩
  refine ix_t (atI_nat (j := 3) rfl) ?_
  rw [f1, a1]
  exact ⟨rfl, p4, ts, n, r, rfl, e4, hn, hf, w_sub s q⟩
end Y

namespace Y
open PySem PySem.Spec PyProof.Rows L2
local macro_rules | `(tactic| walk_at "y1") => `(tactic| simp only [wpS, wpE, wpEs, wpO, wpC, wpI, binU, cmpU, intU, isB, partU, gU, gsU, startU, DF, List.map_cons, List.map_nil, List.length_cons, List.length_nil, List.cons_append, List.nil_append, List.replicate, List.getElem?_cons_zero, List.getElem?_cons_succ, List.set_cons_zero, List.set_cons_succ, true_and, and_true, if_true, Bool.false_eq_true, if_false, Nat.reduceAdd, Nat.reduceSub, w_nil])
/-! ### the path, plainly -/
def optU : Option Int → U
  | none => .non
  | some i => .int i
def plR (r b : Str) : U := .tup [.str (S [114, 111, 111, 109]), .str r, .str b]
def plA (w v : Int) : U := .tup [.str (S [97, 119, 97, 121]), .int w, .int v]
structure PS where
  room : Str
  box : Str
  place : U
  first : Int
  mended : Option Int
  til : Option Int
  found : List U
def strU (a b : Int) (pl : U) (m : Option Int) : U := .tup [.int a, .int b, pl, optU m]
def cut0 (p : PS) (h : Int) : PS := if p.first < h then { p with found := p.found ++ [strU p.first h p.place p.mended], first := h, mended := none } else p
def cutP (p : PS) (h : Int) : PS := match p.til with
  | some u => if u ≤ h then cut0 { cut0 { p with til := none } u with place := plR p.room p.box } h else cut0 p h
  | none => cut0 p h
inductive Deed where
  | move (r : Str) | box (b : Str) | mend (n : Int) | lend (m w v : Int)
def Deed.u : Deed → U
  | .move r => .tup [.str (S [109, 111, 118, 101]), .str r]
  | .box b => .tup [.str (S [98, 111, 120]), .str b]
  | .mend n => .tup [.str (S [109, 101, 110, 100]), .int n]
  | .lend m w v => .tup [.str (S [108, 101, 110, 100]), .int m, .int w, .int v]
def doneP (p : PS) (h : Int) (d : Deed) : PS := match d with
  | .mend n => { cutP p h with mended := some n }
  | .lend m w v => { cutP p h with place := plA w v, til := some (h + m) }
  | .move r => { cutP p h with room := r, place := plR r (cutP p h).box }
  | .box b => { cutP p h with box := b, place := plR (cutP p h).room b }
def pO (p : PS) (f : Addr) : GO := .ins 0 [(0, .str p.room), (1, .str p.box), (2, p.place), (3, .int p.first), (4, optU p.mended), (5, optU p.til), (6, .ref f)]
/-- the path stands at a, its list at f -/
def AtP (G : Gp) (a f : Addr) (p : PS) : Prop := G a = some (pO p f) ∧ G f = some (.lst p.found)
def Fr2 (a f : Addr) (G G' : Gp) : Prop := ∀ x, x ≠ a → x ≠ f → G' x = G x
theorem Fr2.refl {a f : Addr} {G : Gp} : Fr2 a f G G := fun _ _ _ => rfl
theorem Fr2.trans {a f : Addr} {A B C : Gp} (x : Fr2 a f A B) (y : Fr2 a f B C) : Fr2 a f A C := fun z h1 h2 => (y z h1 h2).trans (x z h1 h2)
theorem Fr2.pa {a f : Addr} {G G' : Gp} {o : GO} (x : Fr2 a f G G') : Fr2 a f G (put G' a o) := fun z h1 h2 => by rw [put_ne h1]; exact x z h1 h2
theorem Fr2.pf {a f : Addr} {G G' : Gp} {o : GO} (x : Fr2 a f G G') : Fr2 a f G (put G' f o) := fun z h1 h2 => by rw [put_ne h2]; exact x z h1 h2
theorem AtP.ne {G : Gp} {a f : Addr} {p : PS} (h : AtP G a f p) : f ≠ a := fun z => by
  subst z
  have := h.1.symm.trans h.2
  cases this
def sp_pinit : SpU := fun us G Q _ => ∃ a r b, us = [.ref a, .str r, .str b] ∧ G a = some (.ins 0 []) ∧ ∀ G' f, Fr2 a f G G' → G f = none → AtP G' a f ⟨r, b, plR r b, 0, none, none, []⟩ → Q .non G'
theorem w_pinit {Γ : Gm} {E : XS} {us : List U} {G : Gp} {Q : UK} {X : XU} (h : sp_pinit us G Q X) : wpSs Γ E ir_Path___init__ (DF Q) (startU ce_Path___init__.N us) G := by
  obtain ⟨a, r, b, rfl, h0, q⟩ := h
  unfold ce_Path___init__
  refine w_cons ?_
  walk_at "y1"
  refine ins_of h0 ⟨rfl, by decide, w_go (w_cons ?_)⟩
  walk_at "y1"
  refine ins_of put_same ⟨rfl, (by decide : (1 : Nat) < 1000), w_go (w_cons ?_)⟩
  walk_at "y1"
  refine ⟨by decide, ins_of put_same ⟨rfl, (by decide : (2 : Nat) < 1000), w_go (w_cons ?_)⟩⟩
  walk_at "y1"
  refine ins_of put_same ⟨rfl, (by decide : (3 : Nat) < 1000), w_go (w_cons ?_)⟩
  walk_at "y1"
  refine ins_of put_same ⟨rfl, (by decide : (4 : Nat) < 1000), w_go (w_cons ?_)⟩
  walk_at "y1"
  refine ins_of put_same ⟨rfl, (by decide : (5 : Nat) < 1000), w_go (w_cons ?_)⟩
  walk_at "y1"
  refine ⟨by decide, fun f nf => ins_of (put_at put_same nf) ⟨rfl, (by decide : (6 : Nat) < 1000), w_go ?_⟩⟩
  have nfa : f ≠ a := ne_of put_same nf
  simp only [put_put] at nf ⊢
  refine w_go (q _ f ?_ ?_ ⟨put_same, by rw [put_ne nfa, put_same]⟩)
  · intro x h1 h2
    rw [put_ne h1, put_ne h2, put_ne h1]
  · rw [put_ne nfa] at nf
    exact nf
/-! ### cut_at -/
def sp_cut (d : Bool) : SpU := fun us G Q _ => ∃ a f p h, us = [.ref a, .int h] ∧ AtP G a f p ∧ p.found.length < 1000 ∧ (d = false → p.til = none) ∧ ∀ G', Fr2 a f G G' → AtP G' a f (cutP p h) → Q .non G'
theorem w_cut_tail {Γ : Gm} {E : XS} {G G0 : Gp} {Q : UK} {a f : Addr} {p : PS} {h : Int} {s2 : Option U} (hA : AtP G a f p) (hl : p.found.length < 1001) (q : ∀ G', Fr2 a f G G' → AtP G' a f (cut0 p h) → Q .non G') :
    wpSs Γ E ir_Path_cut_at_1 (DF Q) [some (.ref a), some (.int h), s2] G := by
  have nfa := hA.ne
  refine w_cons ?_
  walk_at "y1"
  refine att_of hA.1 rfl rfl ?_
  show if decide (p.first < h) = true then _ else _
  by_cases hh : p.first < h
  · rw [if_pos (decide_eq_true hh)]
    refine w_cons ?_
    walk_at "y1"
    refine att_of hA.1 rfl rfl ?_
    refine ⟨tm_app hA.2, ?_⟩
    refine att_of hA.1 rfl rfl ?_
    refine att_of hA.1 rfl rfl ?_
    refine att_of hA.1 rfl rfl ?_
    refine ⟨by decide, bm_app hA.2 (Nat.lt_of_lt_of_le hl (by decide)) (w_go (w_cons ?_))⟩
    walk_at "y1"
    have hA2 : ∀ o, put G f o a = some (pO p f) := fun o => by rw [put_ne (Ne.symm nfa)]; exact hA.1
    refine ins_of (hA2 _) ⟨rfl, (by decide : (7 : Nat) < 1000), w_go (w_cons ?_)⟩
    walk_at "y1"
    refine ins_of put_same ⟨rfl, (by decide : (7 : Nat) < 1000), ?_⟩
    refine w_go (w_go (w_go (q _ (Fr2.pa (Fr2.pa (Fr2.pf Fr2.refl))) ?_)))
    have e : cut0 p h = { p with found := p.found ++ [strU p.first h p.place p.mended], first := h, mended := none } := by unfold cut0; rw [if_pos hh]
    rw [e]
    exact ⟨put_same, by rw [put_ne nfa, put_ne nfa, put_same]; rfl⟩
  · rw [if_neg (by simpa using hh)]
    refine w_go (w_go (q _ Fr2.refl ?_))
    have e : cut0 p h = p := by unfold cut0; rw [if_neg hh]
    rw [e]
    exact hA
theorem cut0_len {p : PS} {h : Int} : (cut0 p h).found.length ≤ p.found.length + 1 := by
  unfold cut0
  split
  · show (p.found ++ [_]).length ≤ _
    rw [List.length_append, List.length_singleton]
    exact Nat.le_refl _
  · exact Nat.le_succ _
theorem w_cut {Γ : Gm} {E : XS} {us : List U} {G : Gp} {Q : UK} {X : XU} (d : Bool) (f1 : d = true → Γ.fn f_Path_cut_at = sp_cut false) (a1 : Γ.ar f_Path_cut_at = 2) (h : sp_cut d us G Q X) : wpSs Γ E ir_Path_cut_at (DF Q) (startU ce_Path_cut_at.N us) G := by
  obtain ⟨a, f, p, h, rfl, hA, hl, hd, q⟩ := h
  have nfa := hA.ne
  unfold ce_Path_cut_at
  refine w_cons ?_
  walk_at "y1"
  refine att_of hA.1 rfl rfl ?_
  cases ht : p.til with
  | none =>
    simp only [optU, isU, Bool.not_true, Bool.false_eq_true, if_false]
    refine w_go (w_cut_tail (G0 := G) hA (by omega) fun G' z1 z2 => q G' z1 ?_)
    have e : cutP p h = cut0 p h := by unfold cutP; rw [ht]
    rw [e]
    exact z2
  | some u =>
    have dt : d = true := by
      cases d with
      | true => rfl
      | false => rw [hd rfl] at ht; cases ht
    simp only [optU, isU, if_true]
    refine att_of hA.1 rfl (by show some (optU p.til) = some (.int u); rw [ht]; rfl) ?_
    simp only []
    by_cases hu : u ≤ h
    · rw [decide_eq_true hu]
      simp only [if_true]
      refine w_cons ?_
      walk_at "y1"
      refine att_of hA.1 rfl (by show some (optU p.til) = some (.int u); rw [ht]; rfl) (w_go (w_cons ?_))
      walk_at "y1"
      refine ins_of hA.1 ⟨rfl, (by decide : (7 : Nat) < 1000), w_go (w_cons ?_)⟩
      walk_at "y1"
      have hA1 : AtP (put G a (pO { p with til := none } f)) a f { p with til := none } := ⟨put_same, by rw [put_ne nfa]; exact hA.2⟩
      refine ins_of hA1.1 ⟨rfl, ?_⟩
      simp only [List.lookup, BEq.rfl, f1 dt, a1, true_and]
      refine ⟨a, f, { p with til := none }, u, rfl, hA1, hl, fun _ => rfl, fun G2 z1 z2 => w_go (w_cons ?_)⟩
      walk_at "y1"
      refine att_of z2.1 rfl rfl ?_
      refine att_of z2.1 rfl rfl ?_
      refine ⟨by decide, ins_of z2.1 ⟨rfl, (by decide : (7 : Nat) < 1000), ?_⟩⟩
      refine w_go (w_go ?_)
      have ec : cutP { p with til := none } u = cut0 { p with til := none } u := rfl
      rw [ec] at z2 ⊢
      have er : (cut0 { p with til := none } u).room = p.room ∧ (cut0 { p with til := none } u).box = p.box := by unfold cut0; split <;> exact ⟨rfl, rfl⟩
      have l3 : (cut0 { p with til := none } u).found.length < 1001 := by
        have := cut0_len (p := { p with til := none }) (h := u)
        have hl' : ({ p with til := none } : PS).found.length < 1000 := hl
        omega
      obtain ⟨c, hc⟩ : ∃ c, cut0 { p with til := none } u = c := ⟨_, rfl⟩
      have e : cutP p h = cut0 { c with place := plR c.room c.box } h := by
        unfold cutP
        rw [ht]
        show (if u ≤ h then cut0 { cut0 { p with til := none } u with place := plR p.room p.box } h else _) = _
        rw [if_pos hu, hc]
        rw [hc] at er
        rw [← er.1, ← er.2]
      rw [hc] at z2 l3 ⊢
      have hA3 : AtP (put G2 a (pO { c with place := plR c.room c.box } f)) a f { c with place := plR c.room c.box } := ⟨put_same, by rw [put_ne nfa]; exact z2.2⟩
      refine w_cut_tail (G0 := G) hA3 l3 fun G' z3 z4 => q G' ?_ ?_
      · exact ((Fr2.pa Fr2.refl).trans z1).trans ((Fr2.pa Fr2.refl).trans z3)
      · rw [e]
        exact z4
    · rw [decide_eq_false hu]
      simp only [Bool.false_eq_true, if_false]
      refine w_go (w_cut_tail (G0 := G) hA (by omega) fun G' z1 z2 => q G' z1 ?_)
      have e : cutP p h = cut0 p h := by unfold cutP; rw [ht]; exact if_neg hu
      rw [e]
      exact z2
end Y

namespace Y
open PySem PySem.Spec PyProof.Rows L2
local macro_rules | `(tactic| walk_at "y1") => `(tactic| simp only [wpS, wpE, wpEs, wpO, wpC, wpI, binU, cmpU, intU, isB, partU, gU, gsU, startU, DF, List.map_cons, List.map_nil, List.length_cons, List.length_nil, List.cons_append, List.nil_append, List.replicate, List.getElem?_cons_zero, List.getElem?_cons_succ, List.set_cons_zero, List.set_cons_succ, true_and, and_true, if_true, Bool.false_eq_true, if_false, Nat.reduceAdd, Nat.reduceSub, w_nil])
theorem cutP_len {p : PS} {h : Int} : (cutP p h).found.length ≤ p.found.length + 2 := by
  unfold cutP
  split
  · split
    · refine Nat.le_trans cut0_len ?_
      have := cut0_len (p := { p with til := none }) (h := ‹Int›)
      rename_i u hu _
      have := cut0_len (p := { p with til := none }) (h := u)
      show (cut0 { p with til := none } u).found.length + 1 ≤ _
      have e : ({ p with til := none } : PS).found = p.found := rfl
      rw [e] at this
      omega
    · exact Nat.le_trans cut0_len (Nat.le_succ _)
  · exact Nat.le_trans cut0_len (Nat.le_succ _)
theorem doneP_len {p : PS} {h : Int} {d : Deed} : (doneP p h d).found.length ≤ p.found.length + 2 := by
  cases d <;> exact cutP_len
def sp_done : SpU := fun us G Q _ => ∃ a f p h d, us = [.ref a, .int h, Deed.u d] ∧ AtP G a f p ∧ p.found.length < 990 ∧ ∀ G', Fr2 a f G G' → AtP G' a f (doneP p h d) → Q .non G'
theorem w_done {Γ : Gm} {E : XS} {us : List U} {G : Gp} {Q : UK} {X : XU} (f1 : Γ.fn f_Path_cut_at = sp_cut true) (a1 : Γ.ar f_Path_cut_at = 2) (h : sp_done us G Q X) : wpSs Γ E ir_Path_event_done (DF Q) (startU ce_Path_event_done.N us) G := by
  obtain ⟨a, f, p, h, d, rfl, hA, hl, q⟩ := h
  have nfa := hA.ne
  unfold ce_Path_event_done
  refine w_cons ?_
  walk_at "y1"
  refine ins_of hA.1 ⟨rfl, ?_⟩
  simp only [List.lookup, BEq.rfl, f1, a1, true_and]
  refine ⟨a, f, p, h, rfl, hA, by omega, fun z => (nomatch z), fun G2 z1 z2 => w_go (w_cons ?_)⟩
  obtain ⟨c, hc⟩ : ∃ c, cutP p h = c := ⟨_, rfl⟩
  rw [hc] at z2
  cases d with
  | mend n =>
    walk_at "y1"
    refine ix_t (atI_nat (j := 0) rfl) ?_
    simp only [eqU, scU, eqSc, if_true, decide_true, Bool.false_eq_true, if_false]
    refine w_cons ?_
    walk_at "y1"
    refine ix_t (atI_nat (j := 1) rfl) (ins_of z2.1 ⟨rfl, (by decide : (7 : Nat) < 1000), w_go (w_go (w_go (q _ (z1.trans (Fr2.pa Fr2.refl)) ?_)))⟩)
    have e : doneP p h (.mend n) = { c with mended := some n } := by rw [← hc]; rfl
    rw [e]
    exact ⟨put_same, by rw [put_ne nfa]; exact z2.2⟩
  | lend m w v =>
    walk_at "y1"
    refine ix_t (atI_nat (j := 0) rfl) ?_
    simp only [eqU, scU, eqSc, if_true, Bool.false_eq_true, if_false]
    rw [if_neg (by decide +kernel)]
    refine w_cons ?_
    walk_at "y1"
    refine ix_t (atI_nat (j := 0) rfl) ?_
    simp only [eqU, scU, eqSc, if_true, decide_true, Bool.false_eq_true, if_false]
    refine w_cons ?_
    walk_at "y1"
    refine ix_t (atI_nat (j := 2) rfl) ?_
    refine ix_t (atI_nat (j := 3) rfl) ?_
    refine ⟨by decide, ins_of z2.1 ⟨rfl, (by decide : (7 : Nat) < 1000), w_go (w_cons ?_)⟩⟩
    walk_at "y1"
    refine ix_t (atI_nat (j := 1) rfl) ?_
    simp only [addU]
    refine ins_of put_same ⟨rfl, (by decide : (7 : Nat) < 1000), w_go (w_go (w_go (w_go (q _ (z1.trans (Fr2.pa (Fr2.pa Fr2.refl))) ?_))))⟩
    have e : doneP p h (.lend m w v) = { c with place := plA w v, til := some (h + m) } := by rw [← hc]; rfl
    rw [e]
    exact ⟨put_same, by rw [put_ne nfa, put_ne nfa]; exact z2.2⟩
  | move r =>
    walk_at "y1"
    refine ix_t (atI_nat (j := 0) rfl) ?_
    simp only [eqU, scU, eqSc, if_true, Bool.false_eq_true, if_false]
    rw [if_neg (by decide +kernel)]
    refine w_cons ?_
    walk_at "y1"
    refine ix_t (atI_nat (j := 0) rfl) ?_
    simp only [eqU, scU, eqSc, if_true, Bool.false_eq_true, if_false]
    rw [if_neg (by decide +kernel)]
    refine w_cons ?_
    walk_at "y1"
    refine ix_t (atI_nat (j := 0) rfl) ?_
    simp only [eqU, scU, eqSc, if_true, decide_true, Bool.false_eq_true, if_false]
    refine w_cons ?_
    walk_at "y1"
    refine ix_t (atI_nat (j := 1) rfl) (ins_of z2.1 ⟨rfl, (by decide : (7 : Nat) < 1000), w_go (w_go (w_cons ?_))⟩)
    walk_at "y1"
    refine att_of put_same rfl rfl ?_
    refine att_of put_same rfl rfl ?_
    refine ⟨by decide, ins_of put_same ⟨rfl, (by decide : (7 : Nat) < 1000), w_go (w_go (w_go (w_go (q _ (z1.trans (Fr2.pa (Fr2.pa Fr2.refl))) ?_))))⟩⟩
    have e : doneP p h (.move r) = { c with room := r, place := plR r c.box } := by rw [← hc]; rfl
    rw [e]
    exact ⟨put_same, by rw [put_ne nfa, put_ne nfa]; exact z2.2⟩
  | box b =>
    walk_at "y1"
    refine ix_t (atI_nat (j := 0) rfl) ?_
    simp only [eqU, scU, eqSc, if_true, Bool.false_eq_true, if_false]
    rw [if_neg (by decide +kernel)]
    refine w_cons ?_
    walk_at "y1"
    refine ix_t (atI_nat (j := 0) rfl) ?_
    simp only [eqU, scU, eqSc, if_true, Bool.false_eq_true, if_false]
    rw [if_neg (by decide +kernel)]
    refine w_cons ?_
    walk_at "y1"
    refine ix_t (atI_nat (j := 0) rfl) ?_
    simp only [eqU, scU, eqSc, if_true, Bool.false_eq_true, if_false]
    rw [if_neg (by decide +kernel)]
    refine w_cons ?_
    walk_at "y1"
    refine ix_t (atI_nat (j := 1) rfl) (ins_of z2.1 ⟨rfl, (by decide : (7 : Nat) < 1000), w_go (w_go (w_cons ?_))⟩)
    walk_at "y1"
    refine att_of put_same rfl rfl ?_
    refine att_of put_same rfl rfl ?_
    refine ⟨by decide, ins_of put_same ⟨rfl, (by decide : (7 : Nat) < 1000), w_go (w_go (w_go (w_go (q _ (z1.trans (Fr2.pa (Fr2.pa Fr2.refl))) ?_))))⟩⟩
    have e : doneP p h (.box b) = { c with box := b, place := plR c.room b } := by rw [← hc]; rfl
    rw [e]
    exact ⟨put_same, by rw [put_ne nfa, put_ne nfa]; exact z2.2⟩
end Y

namespace Y
open PySem PySem.Spec PyProof.Rows L2
local macro_rules | `(tactic| walk_at "y1") => `(tactic| simp only [wpS, wpE, wpEs, wpO, wpC, wpI, binU, cmpU, intU, isB, partU, gU, gsU, startU, DF, List.map_cons, List.map_nil, List.length_cons, List.length_nil, List.cons_append, List.nil_append, List.replicate, List.getElem?_cons_zero, List.getElem?_cons_succ, List.set_cons_zero, List.set_cons_succ, true_and, and_true, if_true, Bool.false_eq_true, if_false, Nat.reduceAdd, Nat.reduceSub, w_nil])
structure Ev where
  at_ : Int
  name : Str
  deed : Deed
def Ev.u (e : Ev) : U := .tup [.int e.at_, .str e.name, e.deed.u]
def p00 (r b : Str) : PS := ⟨r, b, plR r b, 0, none, none, []⟩
def stepP (n : Str) (h : Int) (p : PS) (e : Ev) : PS := if e.name = n ∧ e.at_ < h then doneP p e.at_ e.deed else p
def runP (r b : Str) (evs : List Ev) (n : Str) (h : Int) : PS := evs.foldl (stepP n h) (p00 r b)
def pathF (r b : Str) (evs : List Ev) (n : Str) (h : Int) : List U := (cutP (runP r b evs n h) h).found
theorem stepP_len {n : Str} {h : Int} {p : PS} {e : Ev} : (stepP n h p e).found.length ≤ p.found.length + 2 := by
  unfold stepP
  split
  · exact doneP_len
  · omega
theorem fold_len {n : Str} {h : Int} : ∀ (evs : List Ev) (p : PS), (evs.foldl (stepP n h) p).found.length ≤ p.found.length + 2 * evs.length
  | [], p => by simp
  | e :: evs, p => by
    have h1 := fold_len (n := n) (h := h) evs (stepP n h p e)
    have h2 := stepP_len (n := n) (h := h) (p := p) (e := e)
    rw [List.foldl_cons, List.length_cons]
    omega
def sp_stretches : SpU := fun us G Q _ => ∃ a ks rs bs ts evs n h kd r b rest, us = [.ref a, .str n, .int h] ∧ IsArc G a ks rs bs ts ((evs : List Ev).map Ev.u) ∧ (∀ x ∈ ts, ∃ m, nmOf x = some m) ∧ fdN n ts = some (.tup (.str n :: kd :: .str r :: .str b :: rest)) ∧
  evs.length ≤ 100 ∧ 0 ≤ h ∧ h ≤ 1000000000 ∧ ∀ G' f, Sub G G' → G f = none → G' f = some (.lst (pathF r b evs n h)) → Q (.ref f) G'
theorem Fr2.sub {a f : Addr} {G0 G G' : Gp} (x : Fr2 a f G G') (s : Sub G0 G) (ha : G0 a = none) (hf : G0 f = none) : Sub G0 G' := fun z o h => by
  rw [x z (fun e => by subst e; rw [ha] at h; cases h) (fun e => by subst e; rw [hf] at h; cases h)]
  exact s z o h
theorem w_stretches {Γ : Gm} {E : XS} {us : List U} {G : Gp} {Q : UK} {X : XU} (f1 : Γ.fn f_thing_row = sp_thing_row) (a1 : Γ.ar f_thing_row = 2) (f2 : Γ.fn f_need_moment = sp_moment) (a2 : Γ.ar f_need_moment = 1) (f3 : Γ.fn f_Path___init__ = sp_pinit) (a3 : Γ.ar f_Path___init__ = 3)
    (f4 : Γ.fn f_Path_event_done = sp_done) (a4 : Γ.ar f_Path_event_done = 3) (f5 : Γ.fn f_Path_cut_at = sp_cut true) (a5 : Γ.ar f_Path_cut_at = 2) (f6 : Γ.fn f_Archive_told = sp_told) (a6 : Γ.ar f_Archive_told = 1) (h : sp_stretches us G Q X) : wpSs Γ E ir_stretches (DF Q) (startU ce_stretches.N us) G := by
  obtain ⟨a, ks, rs, bs, ts, evs, n, h, kd, r, b, rest, rfl, hA, hn, hf, hl, h0, h1, q⟩ := h
  unfold ce_stretches
  refine w_cons ?_
  walk_at "y1"
  rw [f1, a1]
  refine ⟨rfl, a, ks, rs, bs, ts, _, n, _, rfl, hA, hn, hf, w_go (w_cons ?_)⟩
  walk_at "y1"
  rw [f2, a2]
  refine ⟨rfl, h, rfl, h0, h1, w_go (w_cons ?_)⟩
  walk_at "y1"
  refine ix_t (atI_nat (j := 2) rfl) ?_
  refine ix_t (atI_nat (j := 3) rfl) ?_
  rw [f3, a3]
  refine ⟨rfl, fun p np => ⟨p, r, b, rfl, put_same, fun G1 f z1 nf z2 => ⟨rfl, w_go (w_cons ?_)⟩⟩⟩
  have npf : G f = none := by
    by_cases e : f = p
    · subst e; exact np
    · rw [put_ne e] at nf; exact nf
  have nfp := z2.ne
  have sG1 : Sub G G1 := z1.sub (G0 := G) (Sub.put np) np npf
  have hA1 := hA.mono sG1
  obtain ⟨k1, r1, b1, t1, e1, ha, _⟩ := hA1.ex
  walk_at "y1"
  refine ins_of ha ⟨rfl, ?_⟩
  simp only [List.lookup, BEq.rfl, f6, a6, true_and]
  refine ⟨a, ks, rs, bs, ts, _, rfl, hA1, fun G2 q1 q2 q3 q4 q5 s2 _ _ _ _ e5 hfr => ?_⟩
  refine ix_t (atI_nat (j := 4) rfl) (seq_l e5 ?_)
  have hA2 : AtP G2 p f (p00 r b) := ⟨s2 _ _ z2.1, s2 _ _ z2.2⟩
  have nq5 : ∀ x o, G1 x = some o → (∃ y, o = .lst y) → True := fun _ _ _ _ => trivial
  by_cases hq5 : q5 = f ∨ q5 = p
  · -- the list is none of the path's own
    exfalso
    rcases hq5 with e | e
    · subst e
      have := hfr q5 (by simp)
      rw [z2.2] at this
      cases this
    · subst e
      have := hA2.1.symm.trans e5
      cases this
  · rw [not_or] at hq5
    refine loop_inv _ (fun i σ G' => ∃ s5 s6 s7, σ = [some (.ref a), some (.str n), some (.int h), some (.tup (.str n :: kd :: .str r :: .str b :: rest)), some (.ref p), s5, s6, s7] ∧ Sub G G' ∧ AtP G' p f ((evs.take i).foldl (stepP n h) (p00 r b)) ∧ G' q5 = some (.lst (evs.map Ev.u)))
      ⟨none, none, none, rfl, sG1.trans s2, hA2, e5⟩ (fun i σ G' _ hP => ?_) (fun i x σ G' hx hP nx hnx => ?_) (fun σ G' hP => ?_)
    · obtain ⟨_, _, _, _, _, _, e⟩ := hP
      exact lsG_of e
    · obtain ⟨s5, s6, s7, rfl, sG, hAt, eq5⟩ := hP
      rw [List.getElem?_map, Option.map_eq_some_iff] at hx
      obtain ⟨ev, hev, rfl⟩ := hx
      have htk : evs.take (i + 1) = evs.take i ++ [ev] := by rw [List.take_add_one, hev]; rfl
      have hlen : ((evs.take i).foldl (stepP n h) (p00 r b)).found.length < 990 := by
        have := fold_len (n := n) (h := h) (evs.take i) (p00 r b)
        have e0 : (p00 r b).found.length = 0 := rfl
        have := List.length_take_le i evs
        have : (evs.take i).length ≤ evs.length := by rw [List.length_take]; omega
        omega
      simp only [Ev.u, gU, gsU, List.set_cons_succ, List.set_cons_zero]
      refine w_cons ?_
      walk_at "y1"
      simp only [eqU, scU, eqSc, if_true, Bool.false_eq_true, if_false]
      by_cases hnm : ev.name = n
      · simp only [hnm, decide_true, if_true]
        by_cases hat : ev.at_ < h
        · rw [decide_eq_true hat]
          simp only [if_true]
          refine w_cons ?_
          walk_at "y1"
          refine ins_of hAt.1 ⟨rfl, ?_⟩
          simp only [List.lookup, BEq.rfl, f4, a4, true_and]
          refine ⟨p, f, _, ev.at_, ev.deed, rfl, hAt, hlen, fun G3 z3 z4 => w_go (w_go (hnx _ _ ⟨_, _, _, rfl, z3.sub sG np npf, ?_, ?_⟩))⟩
          · rw [htk, List.foldl_append, List.foldl_cons, List.foldl_nil]
            unfold stepP
            rw [if_pos ⟨hnm, hat⟩]
            exact z4
          · rw [z3 _ hq5.2 hq5.1]
            exact eq5
        · rw [decide_eq_false hat]
          simp only [Bool.false_eq_true, if_false]
          refine w_go (hnx _ _ ⟨_, _, _, rfl, sG, ?_, eq5⟩)
          rw [htk, List.foldl_append, List.foldl_cons, List.foldl_nil]
          rw [show stepP n h ((evs.take i).foldl (stepP n h) (p00 r b)) ev = (evs.take i).foldl (stepP n h) (p00 r b) from if_neg fun z => hat z.2]
          exact hAt
      · simp only [hnm, decide_false, Bool.false_eq_true, if_false]
        refine w_go (hnx _ _ ⟨_, _, _, rfl, sG, ?_, eq5⟩)
        rw [htk, List.foldl_append, List.foldl_cons, List.foldl_nil]
        rw [show stepP n h ((evs.take i).foldl (stepP n h) (p00 r b)) ev = (evs.take i).foldl (stepP n h) (p00 r b) from if_neg fun z => hnm z.1]
        exact hAt
    · obtain ⟨s5, s6, s7, rfl, sG, hAt, eq5⟩ := hP
      rw [List.length_map, List.take_length] at hAt
      have hlen : (evs.foldl (stepP n h) (p00 r b)).found.length < 1000 := by
        have := fold_len (n := n) (h := h) evs (p00 r b)
        have e0 : (p00 r b).found.length = 0 := rfl
        omega
      refine w_go (w_cons ?_)
      walk_at "y1"
      refine ins_of hAt.1 ⟨rfl, ?_⟩
      simp only [List.lookup, BEq.rfl, f5, a5, true_and]
      refine ⟨p, f, _, h, rfl, hAt, hlen, fun z => (nomatch z), fun G3 z3 z4 => w_go (w_cons ?_)⟩
      walk_at "y1"
      exact att_of z4.1 rfl rfl (w_go (q G3 f (z3.sub sG np npf) npf z4.2))
end Y

namespace Y
open PySem PySem.Spec PyProof.Rows L2
local macro_rules | `(tactic| walk_at "y1") => `(tactic| simp only [wpS, wpE, wpEs, wpO, wpC, wpI, binU, cmpU, intU, isB, partU, gU, gsU, startU, DF, List.map_cons, List.map_nil, List.length_cons, List.length_nil, List.cons_append, List.nil_append, List.replicate, List.getElem?_cons_zero, List.getElem?_cons_succ, List.set_cons_zero, List.set_cons_succ, true_and, and_true, if_true, Bool.false_eq_true, if_false, Nat.reduceAdd, Nat.reduceSub, w_nil])
/-! ### two values alike -/
def simL (f : U → U → Bool) : List U → List U → Bool
  | [], [] => true
  | x :: xs, y :: ys => f x y && simL f xs ys
  | _, _ => false
def simU : Nat → Gp → U → U → Bool
  | 0, _, _, _ => false
  | n + 1, G, x, y => match x, y with
    | .tup xs, .tup ys => decide (xs.length ≤ 1000) && simL (simU n G) xs ys
    | .ref a, .ref b => (match lsG (G a), lsG (G b) with
      | some xs, some ys => decide (xs.length ≤ 1000) && simL (simU n G) xs ys
      | _, _ => false)
    | .non, .non => true
    | .int i, .int j => decide (i = j)
    | .str a, .str b => decide (a = b)
    | _, _ => false
theorem simL_len {f : U → U → Bool} : ∀ {xs ys : List U}, simL f xs ys = true → xs.length = ys.length
  | [], [], _ => rfl
  | x :: xs, y :: ys, h => by
    unfold simL at h
    rw [Bool.and_eq_true] at h
    rw [List.length_cons, List.length_cons, simL_len h.2]
  | [], _ :: _, h => by cases h
  | _ :: _, [], h => by cases h
theorem simL_zp {f : U → U → Bool} : ∀ {xs ys : List U}, simL f xs ys = true → ∀ z ∈ zpU xs ys, ∃ u v, z = .tup [u, v] ∧ f u v = true
  | [], _, _, z, hz => by simp [zpU] at hz
  | _ :: _, [], _, z, hz => by simp [zpU] at hz
  | x :: xs, y :: ys, h, z, hz => by
    unfold simL at h
    rw [Bool.and_eq_true] at h
    rw [zpU] at hz
    rcases List.mem_cons.mp hz with e | hz
    · exact ⟨x, y, e, h.1⟩
    · exact simL_zp h.2 z hz
theorem simL_mono {f g : U → U → Bool} (h : ∀ x y, f x y = true → g x y = true) : ∀ {xs ys : List U}, simL f xs ys = true → simL g xs ys = true
  | [], [], _ => rfl
  | x :: xs, y :: ys, e => by
    unfold simL at e ⊢
    rw [Bool.and_eq_true] at e ⊢
    exact ⟨h _ _ e.1, simL_mono h e.2⟩
  | [], _ :: _, e => by cases e
  | _ :: _, [], e => by cases e
theorem lsG_some {o : Option GO} {xs : List U} (h : lsG o = some xs) : o = some (.lst xs) := by
  cases o with
  | none => cases h
  | some o => cases o <;> first | (cases h; rfl) | cases h
theorem simU_mono {G G' : Gp} (s : Sub G G') : ∀ (n : Nat) (x y : U), simU n G x y = true → simU n G' x y = true
  | 0, _, _, h => by cases h
  | n + 1, x, y, h => by
    unfold simU at h ⊢
    split at h
    · rw [Bool.and_eq_true] at h ⊢
      exact ⟨h.1, simL_mono (fun x y => simU_mono s n x y) h.2⟩
    · split at h
      · rename_i xs ys h1 h2
        rw [s _ _ (lsG_some h1), s _ _ (lsG_some h2)]
        simp only [lsG]
        rw [Bool.and_eq_true] at h ⊢
        exact ⟨h.1, simL_mono (fun x y => simU_mono s n x y) h.2⟩
      · cases h
    · exact h
    · exact h
    · exact h
    · cases h
def sp_alike (n : Nat) : SpU := fun us G Q _ => ∃ x y, us = [x, y] ∧ simU n G x y = true ∧ Q (.bl true) G
theorem all_true : ∀ (xs : List U), (xs.map fun _ => true).all id = true
  | [] => rfl
  | _ :: xs => by rw [List.map_cons, List.all_cons, all_true xs]; rfl
theorem w_alike {Γ : Gm} {E : XS} {us : List U} {G : Gp} {Q : UK} {X : XU} (n : Nat) (f1 : Γ.fn f__law_alike = sp_alike n) (a1 : Γ.ar f__law_alike = 2) (h : sp_alike (n + 1) us G Q X) : wpSs Γ E ir__law_alike (DF Q) (startU ce__law_alike.N us) G := by
  obtain ⟨x, y, rfl, hs, q⟩ := h
  unfold ce__law_alike
  refine w_cons ?_
  walk_at "y1"
  refine ⟨by decide, ?_⟩
  have leaf : ∀ (m : BT), tyU G x = some m → tyU G y = some m → m ≠ .tup → m ≠ .lst → m ≠ .bool → scU x y = true → eqSc x y = true → biU .isi [y, .tup [.ty .tup, .ty .lst]] G fun x_1 G1 => (match x_1 with
      | .bl b => if b = true then wpSs Γ E ir__law_alike_2 { nx := fun σ' G' => ∃ G2, Sub G2 G' ∧ wpSs Γ E ir__law_alike_1 { nx := fun _ G' => ∃ G2, Sub G2 G' ∧ Q .non G2, rt := fun u G' => ∃ G2, Sub G2 G' ∧ Q u G2 } σ' G2, rt := fun u G' => ∃ G2, Sub G2 G' ∧ Q u G2 } [some x, some y, none, none] G1 else
          ∃ G2, Sub G2 G1 ∧ wpSs Γ E ir__law_alike_1 { nx := fun _ G' => ∃ G2, Sub G2 G' ∧ Q .non G2, rt := fun u G' => ∃ G2, Sub G2 G' ∧ Q u G2 } [some x, some y, none, none] G2
      | _ => False) := by
    intro m h1 h2 n1 n2 n3 sc es
    refine bi_isiT h2 rfl ?_
    have e : ([BT.tup, BT.lst].any fun n => m.sub n) = false := by
      cases m <;> first | rfl | exact absurd rfl n1 | exact absurd rfl n2
    rw [e]
    simp only [Bool.false_eq_true, if_false]
    refine w_go (w_cons ?_)
    walk_at "y1"
    refine bi_isi h1 ?_
    refine bi_isi h2 ?_
    have e3 : ∀ b : Bool, eqSc (.bl b) (.bl b) = true := fun b => by unfold eqSc; simp
    have e4 : ∀ a b : Bool, scU (.bl a) (.bl b) = true := fun _ _ => rfl
    simp only [eqU, e4, if_true, e3, sc, es, Bool.false_eq_true, if_false]
    exact w_go q
  have deep : ∀ (xs ys : List U), xs.length ≤ 1000 → simL (simU n G) xs ys = true → ∀ (m : BT), (m = .tup ∨ m = .lst) → tyU G x = some m → tyU G y = some m → rdL G x = some xs → rdL G y = some ys →
      (∀ (R : (Gp → Prop) → List U → Gp → Prop), (∀ src : Gp → Prop, (∀ D l, G D = none → src (put G D (.lst l))) → R src (zpU xs ys) G) → zpsU x y G R) → biU .isi [y, .tup [.ty .tup, .ty .lst]] G fun x_1 G1 => (match x_1 with
      | .bl b => if b = true then wpSs Γ E ir__law_alike_2 { nx := fun σ' G' => ∃ G2, Sub G2 G' ∧ wpSs Γ E ir__law_alike_1 { nx := fun _ G' => ∃ G2, Sub G2 G' ∧ Q .non G2, rt := fun u G' => ∃ G2, Sub G2 G' ∧ Q u G2 } σ' G2, rt := fun u G' => ∃ G2, Sub G2 G' ∧ Q u G2 } [some x, some y, none, none] G1 else
          ∃ G2, Sub G2 G1 ∧ wpSs Γ E ir__law_alike_1 { nx := fun _ G' => ∃ G2, Sub G2 G' ∧ Q .non G2, rt := fun u G' => ∃ G2, Sub G2 G' ∧ Q u G2 } [some x, some y, none, none] G2
      | _ => False) := by
    intro xs ys hz hsl m hm h1 h2 r1 r2 hzp
    refine bi_isiT h2 rfl ?_
    have e : ([BT.tup, BT.lst].any fun n => m.sub n) = true := by
      rcases hm with rfl | rfl <;> rfl
    rw [e]
    simp only [if_true]
    refine w_cons ?_
    walk_at "y1"
    refine bi_isi h1 ?_
    refine bi_isi h2 ?_
    have e3 : ∀ b : Bool, eqSc (.bl b) (.bl b) = true := fun b => by unfold eqSc; simp
    simp only [eqU, scU, if_true, e3, Bool.not_true, Bool.false_eq_true, if_false]
    refine ⟨by decide, bi_isiT h1 rfl ?_⟩
    rw [e]
    simp only [Bool.not_true, Bool.false_eq_true, if_false]
    refine w_go (w_cons ?_)
    walk_at "y1"
    have hl := simL_len hsl
    have ln : ∀ (z : U) (zs : List U) (R : UK), (tyU G z = some .tup ∨ tyU G z = some .lst) → rdL G z = some zs → R (.int zs.length) G → biU .len [z] G R := by
      intro z zs R ht hr hq
      simp only [biU, lenU]
      split
      · rcases ht with ht | ht <;> cases ht
      · rw [hr]; exact hq
    refine ln x xs _ (by rcases hm with rfl | rfl; exact .inl h1; exact .inr h1) r1 ?_
    refine ln y ys _ (by rcases hm with rfl | rfl; exact .inl h2; exact .inr h2) r2 ?_
    simp only [eqU, scU, eqSc, hl, if_true, decide_true, Bool.false_eq_true, if_false]
    refine hzp _ fun src hsrc D hD => ?_
    refine lc_map (fun _ => .bl true) _ (fun l => hsrc D l hD) (fun z hz' l K hK => ?_) ?_ ?_
    · obtain ⟨u, v, rfl, hf⟩ := simL_zp hsl z hz'
      simp only [gU, gsU, wipeU, List.set_cons_succ, List.set_cons_zero, List.getElem?_cons_succ, List.getElem?_cons_zero]
      rw [f1, a1]
      exact ⟨rfl, u, v, rfl, simU_mono (Sub.put hD) n u v hf, hK⟩
    · rw [zpU_len]
      exact Nat.le_trans (Nat.min_le_left _ _) (Nat.le_trans hz (by decide))
    · refine bi_all put_same (blsU_map (fun _ => true) _) ?_
      rw [all_true]
      exact w_sub (Sub.put hD) q
  unfold simU at hs
  split at hs
  · rename_i xs ys
    rw [Bool.and_eq_true, decide_eq_true_eq] at hs
    exact deep xs ys hs.1 hs.2 .tup (.inl rfl) rfl rfl rfl rfl fun R hR => hR _ fun _ _ _ => trivial
  · rename_i a b
    split at hs
    · rename_i xs ys e1 e2
      rw [Bool.and_eq_true, decide_eq_true_eq] at hs
      have g1 := lsG_some e1
      have g2 := lsG_some e2
      refine deep xs ys hs.1 hs.2 .lst (.inr rfl) (by simp only [tyU, g1]) (by simp only [tyU, g2]) (by simp only [rdL, e1]) (by simp only [rdL, e2]) fun R hR => zp_l g1 g2 (hR _ fun D l hD => ?_)
      exact ⟨lsG_of (put_at g1 hD), lsG_of (put_at g2 hD)⟩
    · cases hs
  · exact leaf .non rfl rfl (by decide) (by decide) (by decide) rfl rfl
  · rename_i i j
    exact leaf .int rfl rfl (by decide) (by decide) (by decide) rfl hs
  · rename_i i j
    exact leaf .str rfl rfl (by decide) (by decide) (by decide) rfl hs
  · cases hs
end Y

namespace Y
open PySem PySem.Spec PyProof.Rows L2
local macro_rules | `(tactic| walk_at "y1") => `(tactic| simp only [wpS, wpE, wpEs, wpO, wpC, wpI, binU, cmpU, intU, isB, partU, gU, gsU, startU, DF, List.map_cons, List.map_nil, List.length_cons, List.length_nil, List.cons_append, List.nil_append, List.replicate, List.getElem?_cons_zero, List.getElem?_cons_succ, List.set_cons_zero, List.set_cons_succ, true_and, and_true, if_true, Bool.false_eq_true, if_false, Nat.reduceAdd, Nat.reduceSub, w_nil])
/-! ### values without places -/
def G0 : Gp := fun _ => none
def PureN (n : Nat) (u : U) : Prop := simU n G0 u u = true
theorem PureN.sim {n : Nat} {u : U} {G : Gp} (h : PureN n u) : simU n G u u = true := simU_mono (fun _ _ z => by cases z) n u u h
theorem simL_self {f : U → U → Bool} : ∀ {xs : List U}, (∀ x ∈ xs, f x x = true) → simL f xs xs = true
  | [], _ => rfl
  | x :: xs, h => by
    unfold simL
    rw [h x List.mem_cons_self, simL_self fun y hy => h y (List.mem_cons_of_mem _ hy)]
    rfl
theorem pure_tup {n : Nat} {xs : List U} (hz : xs.length ≤ 1000) (h : ∀ x ∈ xs, PureN n x) : PureN (n + 1) (.tup xs) := by
  show (decide (xs.length ≤ 1000) && simL (simU n G0) xs xs) = true
  rw [decide_eq_true hz, simL_self h]
  rfl
theorem pure_int {n : Nat} {i : Int} : PureN (n + 1) (.int i) := by unfold PureN simU; simp
theorem pure_str {n : Nat} {i : Str} : PureN (n + 1) (.str i) := by unfold PureN simU; simp
theorem pure_ints {n : Nat} {ns : List Int} (hz : ns.length ≤ 1000) : PureN (n + 2) (.tup (ns.map U.int)) := pure_tup (by rw [List.length_map]; exact hz) fun x hx => by
  obtain ⟨i, _, rfl⟩ := List.mem_map.mp hx
  exact pure_int
theorem flt_ints : ∀ ns : List Int, (ns.map U.int).all fltU = true
  | [] => rfl
  | n :: ns => by rw [List.map_cons, List.all_cons, flt_ints ns]; rfl
/-- one of a row of literals -/
theorem pick {xs : List U} {i : Int} {G : Gp} {a : Addr} {Q : UK} (h : G a = some (.lst xs)) (h0 : 0 ≤ i) (h1 : i < xs.length) (q : ∀ x ∈ xs, Q x G) : ixU (.ref a) (.int i) G Q := by
  obtain ⟨x, e1, e2⟩ := at_some h0 h1
  exact ix_l h e2 (q x (List.mem_of_getElem? e1))
theorem mod_nn (a : Int) {m : Int} (h : 0 < m) : 0 ≤ a % m ∧ a % m < m := ⟨Int.emod_nonneg _ (Int.ne_of_gt h), Int.emod_lt_of_pos _ h⟩
theorem dok {i j : Int} (h : 0 < j) (h2 : j.natAbs.log2 < 9000) : DivOk i j := ⟨h, h2⟩
/-! ### points -/
def sp_points : SpU := fun us G Q _ => ∃ n m k, us = [.int n, .int m, .int k] ∧ 0 ≤ m ∧ 0 ≤ k ∧ k ≤ 3 ∧ ∀ ns : List Int, ns.length ≤ 3 → Q (.tup (ns.map U.int)) G
theorem w_points {Γ : Gm} {E : XS} {us : List U} {G : Gp} {Q : UK} {X : XU} (f1 : Γ.fn f__law_mixed = sp_mixed) (a1 : Γ.ar f__law_mixed = 2) (h : sp_points us G Q X) : wpSs Γ E ir__law_points (DF Q) (startU ce__law_points.N us) G := by
  obtain ⟨n, m, k, rfl, hm, hk, hk2, q⟩ := h
  unfold ce__law_points
  refine w_cons ?_
  walk_at "y1"
  refine ⟨by decide, fun p np => w_go (w_cons ?_)⟩
  walk_at "y1"
  refine ⟨by omega, by omega, ?_⟩
  refine loop_inv _ (fun i σ G' => ∃ s4 s5 ns, σ = [some (.int n), some (.int m), some (.int k), some (.ref p), s4, s5] ∧ G' = put G p (.lst ((ns : List Int).map U.int)) ∧ ns.length ≤ i) ⟨none, none, [], rfl, rfl, Nat.le_refl _⟩ (fun _ _ _ _ _ => trivial) (fun i x σ G' hx hP nx hnx => ?_) (fun σ G' hP => ?_)
  · obtain ⟨s4, s5, ns, rfl, rfl, hl⟩ := hP
    rw [rngU_get] at hx
    split at hx
    · rename_i hi
      cases hx
      simp only [gU, List.set_cons_succ, List.set_cons_zero]
      refine w_cons ?_
      walk_at "y1"
      simp only [addU]
      rw [f1, a1]
      refine ⟨rfl, n, _, rfl, by omega, by omega, by omega, w_go (w_cons ?_)⟩
      walk_at "y1"
      simp only [inU, rdL, lsG_put, fltU, true_and]
      refine ⟨flt_ints ns, ?_⟩
      cases inF (.int (mixI n (0 + (i : Int) + 2) % (m + 1))) (ns.map U.int) with
      | true =>
        simp only [Bool.not_true, Bool.false_eq_true, if_false]
        exact w_go (hnx _ _ ⟨_, _, ns, rfl, rfl, by omega⟩)
      | false =>
        simp only [Bool.not_false, if_true]
        refine w_cons ?_
        walk_at "y1"
        refine ⟨tm_app put_same, bm_app put_same ?_ (w_go (w_go (hnx _ _ ⟨_, _, ns ++ [mixI n (0 + (i : Int) + 2) % (m + 1)], rfl, ?_, by rw [List.length_append, List.length_singleton]; omega⟩)))⟩
        · rw [List.length_map]
          exact Nat.lt_of_le_of_lt (show ns.length ≤ 3 by omega) (by decide)
        · rw [put_put, List.map_append]
          rfl
    · cases hx
  · obtain ⟨s4, s5, ns, rfl, rfl, hl⟩ := hP
    rw [rngU_len] at hl
    refine w_go (w_cons ?_)
    walk_at "y1"
    refine bi_sorted put_same fun ns' p2 h1 h2 n2 => ?_
    refine bi_tuple put_same ?_
    refine w_sub ((Sub.put np).trans (Sub.put n2)) (q ns' ?_)
    rw [h1.length_eq]
    omega
/-! ### a kind -/
def sp_pure2 (n : Nat) : SpU := fun us G Q _ => ∃ i z, us = [.int i, .str z] ∧ 0 ≤ i ∧ ∀ u, PureN n u → Q u G
theorem w_kind {Γ : Gm} {E : XS} {us : List U} {G : Gp} {Q : UK} {X : XU} (f1 : Γ.fn f__law_mixed = sp_mixed) (a1 : Γ.ar f__law_mixed = 2) (f2 : Γ.fn f__law_points = sp_points) (a2 : Γ.ar f__law_points = 3) (h : sp_pure2 4 us G Q X) : wpSs Γ E ir__law_kind (DF Q) (startU ce__law_kind.N us) G := by
  obtain ⟨n, z, rfl, hn, q⟩ := h
  unfold ce__law_kind
  refine w_cons ?_
  walk_at "y1"
  simp only [addU]
  refine ⟨dok (by decide) (by decide), by decide, dok (by decide) (by decide), by decide, by decide, by decide, fun p np => ⟨dok (by decide) (by decide), by decide, ?_⟩⟩
  refine pick put_same (mod_nn _ (by decide)).1 (mod_nn _ (by decide)).2 fun x hx => ?_
  have hx' : ∃ i, x = .int i := by
    simp only [List.mem_cons, List.not_mem_nil, or_false] at hx
    rcases hx with rfl | rfl | rfl <;> exact ⟨_, rfl⟩
  obtain ⟨life, rfl⟩ := hx'
  refine w_sub (Sub.put np) (w_cons ?_)
  walk_at "y1"
  simp only [addU]
  rw [f2, a2]
  have m3 := mod_nn (n / 90) (show (0 : Int) < 3 by decide)
  have m4 := mod_nn (n / 270) (show (0 : Int) < 3 by decide)
  refine ⟨dok (by decide) (by decide), by decide, rfl, _, _, _, rfl, by decide, by omega, by omega, fun ws hws => w_go (w_cons ?_)⟩
  walk_at "y1"
  simp only [addU]
  rw [f2, a2]
  refine ⟨dok (by decide) (by decide), dok (by decide) (by decide), by decide, rfl, _, _, _, rfl, by decide, by omega, by omega, fun vs hvs => w_go (w_cons ?_)⟩
  walk_at "y1"
  refine ⟨by decide, fun t nt => w_go (w_cons ?_)⟩
  walk_at "y1"
  refine bi_lenT ?_
  refine ⟨by rw [List.length_map]; omega, by rw [List.length_map]; omega, ?_⟩
  refine loop_inv _ (fun i σ G' => ∃ s6 s7 rows, σ = [some (.int n), some (.str z), some (.int life), some (.tup (ws.map U.int)), some (.tup (vs.map U.int)), some (.ref t), s6, s7, none] ∧ G' = put G t (.lst rows) ∧ rows.length ≤ i ∧ ∀ x ∈ rows, PureN 2 x) ⟨none, none, [], rfl, rfl, Nat.le_refl _, fun _ h => nomatch h⟩ (fun _ _ _ _ _ => trivial) (fun i x σ G' hx hP nx hnx => ?_) (fun σ G' hP => ?_)
  · obtain ⟨s6, s7, rows, rfl, rfl, hl, hr⟩ := hP
    rw [rngU_get] at hx
    split at hx
    · rename_i hi
      cases hx
      rw [List.length_map] at hi
      simp only [gU, List.set_cons_succ, List.set_cons_zero]
      refine w_cons ?_
      walk_at "y1"
      refine bi_lenT ?_
      refine ⟨by rw [List.length_map]; omega, by rw [List.length_map]; omega, fun D nD => ?_⟩
      have nDt : t ≠ D := fun e => by subst e; rw [put_same] at nD; cases nD
      refine lc_by _ (fun j acc G' => G' D = some (.lst acc) ∧ G' t = some (.lst rows) ∧ Sub G G' ∧ acc.length ≤ j ∧ ∀ x ∈ acc, PureN 1 x) ⟨put_same, by rw [put_ne nDt, put_same], (Sub.put nt).trans (Sub.put nD), Nat.le_refl _, fun _ h => nomatch h⟩ (fun _ _ _ _ _ => trivial) (fun j x acc G' hx hP nx2 hnx2 => ?_) (fun acc G' hP => ?_)
      · obtain ⟨g1, g2, sG, hla, hpa⟩ := hP
        rw [rngU_get] at hx
        split at hx
        · rename_i hj
          cases hx
          rw [List.length_map] at hj
          simp only [gU, wipeU, List.set_cons_succ, List.set_cons_zero, List.getElem?_cons_succ, List.getElem?_cons_zero, addU, mulU, if_true]
          rw [f1, a1]
          refine ⟨mul_l (by decide) (by decide), rfl, n, _, rfl, by omega, by omega, ⟨by decide, fun p2 n2 => ⟨dok (by decide) (by decide), by decide, ?_⟩⟩⟩
          refine pick put_same (mod_nn _ (by decide)).1 (mod_nn _ (by decide)).2 fun x hx => ?_
          have hx' : ∃ i : Int, 0 < i ∧ x = .int i := by
            simp only [List.mem_cons, List.not_mem_nil, or_false] at hx
            rcases hx with rfl | rfl | rfl
            · exact ⟨2, by decide, rfl⟩
            · exact ⟨11, by decide, rfl⟩
            · exact ⟨1001, by decide, rfl⟩
          obtain ⟨i2, hi2, rfl⟩ := hx'
          have nD2 : D ≠ p2 := fun e => by subst e; rw [g1] at n2; cases n2
          have nt2 : t ≠ p2 := fun e => by subst e; rw [g2] at n2; cases n2
          refine ⟨hi2, by rw [put_ne nD2]; exact g1, Nat.lt_of_le_of_lt (show acc.length ≤ 3 by omega) (by decide), hnx2 _ _ ⟨put_same, ?_, ?_, by rw [List.length_append, List.length_singleton]; omega, ?_⟩⟩
          · rw [put_ne nDt, put_ne nt2]; exact g2
          · intro x o hx
            rw [put_ne, put_ne]
            · exact sG x o hx
            · intro e; subst e; rw [sG _ _ hx] at n2; cases n2
            · intro e; subst e; rw [put_ne (Ne.symm nDt)] at nD; rw [hx] at nD; cases nD
          · intro x hx
            rcases List.mem_append.mp hx with hx | hx
            · exact hpa x hx
            · rw [List.mem_singleton.mp hx]; exact pure_int
        · cases hx
      · obtain ⟨g1, g2, sG, hla, hpa⟩ := hP
        rw [rngU_len, List.length_map] at hla
        have sub2 : Sub (put (put G t (.lst rows)) D (.lst acc)) G' := fun x o hx => by
          by_cases e : x = D
          · subst e; rw [put_same] at hx; cases hx; exact g1
          · rw [put_ne e] at hx
            by_cases e2 : x = t
            · subst e2; rw [put_same] at hx; cases hx; exact g2
            · rw [put_ne e2] at hx; exact sG x o hx
        refine w_sub sub2 (w_cons ?_)
        walk_at "y1"
        have ht2 : put (put G t (.lst rows)) D (.lst acc) t = some (.lst rows) := by rw [put_ne nDt, put_same]
        refine ⟨tm_app ht2, bi_tuple put_same ?_⟩
        refine bm_app ht2 (Nat.lt_of_le_of_lt (show rows.length ≤ 3 by omega) (by decide)) ?_
        refine w_sub (G := put G t (.lst (rows ++ [.tup acc]))) ?_ (hnx _ _ ⟨_, _, _, rfl, rfl, by rw [List.length_append, List.length_singleton]; omega, ?_⟩)
        · intro x o hx
          by_cases e2 : x = t
          · subst e2; rw [put_same] at hx ⊢; exact hx
          · rw [put_ne e2] at hx
            rw [put_ne e2, put_ne, put_ne e2]
            · exact hx
            · intro e; subst e; rw [put_ne e2] at nD; rw [hx] at nD; cases nD
        · intro x hx
          rcases List.mem_append.mp hx with hx | hx
          · exact hr x hx
          · rw [List.mem_singleton.mp hx]
            exact pure_tup (by omega) hpa
    · cases hx
  · obtain ⟨s6, s7, rows, rfl, rfl, hl, hr⟩ := hP
    rw [rngU_len, List.length_map] at hl
    refine w_go (w_cons ?_)
    walk_at "y1"
    refine bi_tuple put_same ?_
    refine ⟨by decide, w_sub (Sub.put nt) (q _ (pure_tup (by simp) fun x hx => ?_))⟩
    simp only [List.mem_cons, List.not_mem_nil, or_false] at hx
    rcases hx with rfl | rfl | rfl | rfl | rfl
    · exact pure_str
    · exact pure_int
    · exact pure_ints (by omega)
    · exact pure_ints (by omega)
    · exact pure_tup (by omega) hr
end Y

namespace Y
open PySem PySem.Spec PyProof.Rows L2
local macro_rules | `(tactic| walk_at "y1") => `(tactic| simp only [wpS, wpE, wpEs, wpO, wpC, wpI, binU, cmpU, intU, isB, partU, gU, gsU, startU, DF, List.map_cons, List.map_nil, List.length_cons, List.length_nil, List.cons_append, List.nil_append, List.replicate, List.getElem?_cons_zero, List.getElem?_cons_succ, List.set_cons_zero, List.set_cons_succ, true_and, and_true, if_true, Bool.false_eq_true, if_false, Nat.reduceAdd, Nat.reduceSub, w_nil])
/-! ### a deed -/
def GoodD (d : Deed) (h u : Int) : Prop := match d with
  | .lend m _ _ => 1 ≤ m ∧ m ≤ 12 ∧ u = h + m
  | _ => u = h
def sp_deed : SpU := fun us G Q _ => ∃ n h, us = [.int n, .int h] ∧ ∀ d u, GoodD d h u → Q (.tup [Deed.u d, .int u]) G
theorem w_deed {Γ : Gm} {E : XS} {us : List U} {G : Gp} {Q : UK} {X : XU} (h : sp_deed us G Q X) : wpSs Γ E ir__law_deed (DF Q) (startU ce__law_deed.N us) G := by
  obtain ⟨n, h, rfl, q⟩ := h
  unfold ce__law_deed
  refine w_cons ?_
  walk_at "y1"
  refine ⟨by decide, w_go (w_cons ?_)⟩
  walk_at "y1"
  by_cases h2 : n % 5 < 2
  · rw [decide_eq_true h2]
    simp only [if_true]
    refine w_cons ?_
    walk_at "y1"
    refine ⟨by decide, fun p np => ⟨dok (by decide) (by decide), by decide, ?_⟩⟩
    refine pick put_same (mod_nn _ (by decide)).1 (mod_nn _ (by decide)).2 fun x hx => ?_
    have hx' : ∃ z, x = .str z := by
      simp only [List.mem_cons, List.not_mem_nil, or_false] at hx
      rcases hx with rfl | rfl <;> exact ⟨_, rfl⟩
    obtain ⟨z, rfl⟩ := hx'
    exact ⟨by decide, by decide, w_sub (Sub.put np) (q (.move z) h rfl)⟩
  · rw [decide_eq_false h2]
    simp only [Bool.false_eq_true, if_false]
    refine w_go (w_cons ?_)
    walk_at "y1"
    simp only [eqU, scU, eqSc, if_true, Bool.false_eq_true, if_false]
    by_cases h3 : n % 5 = 2
    · rw [decide_eq_true h3]
      simp only [if_true]
      refine w_cons ?_
      walk_at "y1"
      refine ⟨by decide, fun p np => ⟨dok (by decide) (by decide), by decide, ?_⟩⟩
      refine pick put_same (mod_nn _ (by decide)).1 (mod_nn _ (by decide)).2 fun x hx => ?_
      have hx' : ∃ z, x = .str z := by
        simp only [List.mem_cons, List.not_mem_nil, or_false] at hx
        rcases hx with rfl | rfl <;> exact ⟨_, rfl⟩
      obtain ⟨z, rfl⟩ := hx'
      exact ⟨by decide, by decide, w_sub (Sub.put np) (q (.box z) h rfl)⟩
    · rw [decide_eq_false h3]
      simp only [Bool.false_eq_true, if_false]
      refine w_go (w_cons ?_)
      walk_at "y1"
      simp only [eqU, scU, eqSc, if_true, Bool.false_eq_true, if_false]
      by_cases h4 : n % 5 = 3
      · rw [decide_eq_true h4]
        simp only [if_true]
        refine w_cons ?_
        walk_at "y1"
        refine ⟨dok (by decide) (by decide), by decide, dok (by decide) (by decide), by decide, by decide, by decide, fun p np => ⟨dok (by decide) (by decide), by decide, ?_⟩⟩
        refine pick put_same (mod_nn _ (by decide)).1 (mod_nn _ (by decide)).2 fun x hx => ?_
        have hx' : ∃ z, x = .int z := by
          simp only [List.mem_cons, List.not_mem_nil, or_false] at hx
          rcases hx with rfl | rfl | rfl <;> exact ⟨_, rfl⟩
        obtain ⟨z, rfl⟩ := hx'
        exact ⟨by decide, by decide, w_sub (Sub.put np) (q (.mend z) h rfl)⟩
      · rw [decide_eq_false h4]
        simp only [Bool.false_eq_true, if_false]
        refine w_go (w_cons ?_)
        walk_at "y1"
        simp only [addU]
        refine ⟨dok (by decide) (by decide), by decide, w_go (w_cons ?_)⟩
        walk_at "y1"
        simp only [addU]
        have m1 := mod_nn (n / 5) (show (0 : Int) < 12 by decide)
        exact ⟨dok (by decide) (by decide), by decide, dok (by decide) (by decide), by decide, by decide, by decide, w_go (q (.lend (1 + n / 5 % 12) _ _) _ ⟨by omega, by omega, rfl⟩)⟩
/-! ### a room -/
def Few (ns : List Int) : Prop := ∀ x ∈ ns, 0 ≤ x ∧ x ≤ 400
theorem Few.perm {a b : List Int} (h : Few b) (p : a.Perm b) : Few a := fun x hx => h x (p.mem_iff.mp hx)
theorem w_room6 {Γ : Gm} {E : XS} {G G' : Gp} {Q : UK} {n : Int} {z : Str} {D r : Addr} {days : List U} {ns : List Int} {s2 s3 s4 : Option U} (f1 : Γ.fn f__law_mixed = sp_mixed) (a1 : Γ.ar f__law_mixed = 2) (hd : days.length ≤ 4) (pd : ∀ x ∈ days, PureN 2 x)
    (g1 : G' D = some (.lst days)) (g2 : G' r = some (.lst (ns.map U.int))) (sG : Sub G G') (hl : ns.length ≤ 4) (hfw : Few ns) (q : ∀ u, PureN 4 u → Q u G) :
    wpSs Γ E ir__law_room_5 (DF Q) [some (.int n), some (.str z), s2, s3, s4, some (.ref D), some (.ref r), none] G' := by
  refine w_cons ?_
  walk_at "y1"
  refine ⟨by decide, fun t nt => w_go (w_cons ?_)⟩
  walk_at "y1"
  refine bi_sorted (put_at g2 nt) fun ns' p2 h1 h2 n2 => seq_l put_same ?_
  have hf2 := hfw.perm h1
  have nt2 : t ≠ p2 := fun e => by subst e; rw [put_same] at n2; cases n2
  have nDt : D ≠ t := Ne.symm (ne_of g1 nt)
  have nD2 : D ≠ p2 := fun e => by subst e; rw [put_ne nDt, g1] at n2; cases n2
  refine loop_inv _ (fun i σ G2 => ∃ s4 rows, σ = [some (.int n), some (.str z), s2, s3, s4, some (.ref D), some (.ref r), some (.ref t)] ∧ G2 D = some (.lst days) ∧ G2 t = some (.lst rows) ∧ G2 p2 = some (.lst (ns'.map U.int)) ∧ Sub G G2 ∧ rows.length ≤ i ∧ ∀ x ∈ rows, PureN 2 x)
    ⟨s4, [], rfl, by rw [put_ne nD2, put_ne nDt]; exact g1, by rw [put_ne nt2, put_same], put_same, (sG.trans (Sub.put nt)).trans (Sub.put n2), Nat.le_refl _, fun _ h => nomatch h⟩ (fun i σ G2 _ hP => ?_) (fun i x σ G2 hx hP nx hnx => ?_) (fun σ G2 hP => ?_)
  · obtain ⟨_, _, _, _, _, e, _⟩ := hP
    exact lsG_of e
  · obtain ⟨s4', rows, rfl, e1, e2, e3, e4, hlr, hpr⟩ := hP
    have hx2 := hx
    rw [List.getElem?_map, Option.map_eq_some_iff] at hx
    obtain ⟨o, ho, rfl⟩ := hx
    have hb := hf2 o (List.mem_of_getElem? ho)
    have hi : i < ns'.length := by
      by_cases hi : i < ns'.length
      · exact hi
      · rw [List.getElem?_eq_none (by omega)] at ho; cases ho
    rw [h1.length_eq] at hi
    simp only [gU, List.set_cons_succ, List.set_cons_zero]
    refine w_cons ?_
    walk_at "y1"
    simp only [addU]
    refine ⟨tm_app e2, ?_⟩
    rw [f1, a1]
    refine ⟨rfl, n, o, rfl, by omega, by omega, by decide, rfl, n, o + 1, rfl, by omega, by omega, by decide, by decide, ?_⟩
    refine bm_app e2 (Nat.lt_of_le_of_lt (show rows.length ≤ 4 by omega) (by decide)) (w_go (hnx _ _ ⟨_, _, rfl, ?_, put_same, ?_, ?_, by rw [List.length_append, List.length_singleton]; omega, ?_⟩))
    · rw [put_ne nDt]; exact e1
    · rw [put_ne (Ne.symm nt2)]; exact e3
    · intro x u hx
      rw [put_ne]
      · exact e4 x u hx
      · intro e
        subst e
        rw [sG _ _ hx] at nt
        cases nt
    · intro x hx
      rcases List.mem_append.mp hx with hx | hx
      · exact hpr x hx
      · rw [List.mem_singleton.mp hx]
        exact pure_tup (by simp) fun y hy => by
          simp only [List.mem_cons, List.not_mem_nil, or_false] at hy
          rcases hy with rfl | rfl | rfl <;> exact pure_int
  · obtain ⟨s4', rows, rfl, e1, e2, e3, e4, hlr, hpr⟩ := hP
    rw [List.length_map, h1.length_eq] at hlr
    refine w_go (w_cons ?_)
    walk_at "y1"
    simp only [addU]
    refine ⟨dok (by decide) (by decide), by decide, by decide, bi_tuple e1 ?_⟩
    refine bi_tuple e2 ⟨by decide, w_sub e4 (q _ (pure_tup (by simp) fun x hx => ?_))⟩
    simp only [List.mem_cons, List.not_mem_nil, or_false] at hx
    rcases hx with rfl | rfl | rfl | rfl | rfl
    · exact pure_str
    · exact pure_int
    · exact pure_tup (by simp) fun _ h => nomatch h
    · exact pure_tup (by omega) pd
    · exact pure_tup (by omega) hpr
theorem w_room4 {Γ : Gm} {E : XS} {G : Gp} {Q : UK} {n : Int} {z : Str} {D r : Addr} {days : List U} {s2 s3 s4 : Option U} {k : Int} (f1 : Γ.fn f__law_mixed = sp_mixed) (a1 : Γ.ar f__law_mixed = 2) (hk : k ≤ 3) (hd : days.length ≤ 4) (pd : ∀ x ∈ days, PureN 2 x)
    (nD : G D = none) (nr : G r = none) (nDr : D ≠ r) (q : ∀ u, PureN 4 u → Q u G) :
    loopU (gU (.name 3)) (wpSs Γ E ir__law_room_11) (fun _ => True) (rngU 0 k.toNat) { nx := fun σ' G' => ∃ G2, Sub G2 G' ∧ wpSs Γ E ir__law_room_5 { nx := fun _ G' => ∃ G2, Sub G2 G' ∧ Q .non G2, rt := fun u G' => ∃ G2, Sub G2 G' ∧ Q u G2 } σ' G2, rt := fun u G' => ∃ G2, Sub G2 G' ∧ Q u G2 }
      [some (.int n), some (.str z), s2, s3, s4, some (.ref D), some (.ref r), none] (put (put G D (.lst days)) r (.lst [])) := by
  have sub0 : Sub G (put (put G D (.lst days)) r (.lst [])) := fun x o hx => by
    rw [put_ne, put_ne]
    · exact hx
    · intro e; subst e; rw [nD] at hx; cases hx
    · intro e; subst e; rw [nr] at hx; cases hx
  refine loop_inv _ (fun i σ G' => ∃ s3 s4 ns, σ = [some (.int n), some (.str z), s2, s3, s4, some (.ref D), some (.ref r), none] ∧ G' D = some (.lst days) ∧ G' r = some (.lst ((ns : List Int).map U.int)) ∧ Sub G G' ∧ ns.length ≤ i ∧ Few ns)
    ⟨s3, s4, [], rfl, by rw [put_ne nDr, put_same], put_same, sub0, Nat.le_refl _, fun _ h => nomatch h⟩ (fun _ _ _ _ _ => trivial) (fun i x σ G' hx hP nx hnx => ?_) (fun σ G' hP => ?_)
  · obtain ⟨s3, s4, ns, rfl, e1, e2, sG, hl, hfw⟩ := hP
    rw [rngU_get] at hx
    split at hx
    · rename_i hi
      cases hx
      simp only [gU, List.set_cons_succ, List.set_cons_zero]
      refine w_cons ?_
      walk_at "y1"
      simp only [addU]
      rw [f1, a1]
      refine ⟨rfl, n, _, rfl, by omega, by omega, by decide, fun p2 n2 => ⟨dok (by decide) (by decide), by decide, ?_⟩⟩
      refine pick put_same (mod_nn _ (by decide)).1 (mod_nn _ (by decide)).2 fun x hx => ?_
      have hx' : ∃ m : Int, 0 < m ∧ m ≤ 365 ∧ x = .int m := by
        simp only [List.mem_cons, List.not_mem_nil, or_false] at hx
        rcases hx with rfl | rfl
        · exact ⟨4, by decide, by decide, rfl⟩
        · exact ⟨365, by decide, by decide, rfl⟩
      obtain ⟨m, hm0, hm1, rfl⟩ := hx'
      refine ⟨hm0, w_sub (G := G') (Sub.put n2) (w_cons ?_)⟩
      have mm := mod_nn (mixI n (45 + (0 + (i : Int)))) hm0
      walk_at "y1"
      simp only [inU, rdL, lsG_of e2, fltU, true_and]
      refine ⟨flt_ints ns, ?_⟩
      cases inF (.int (mixI n (45 + (0 + (i : Int))) % m)) (ns.map U.int) with
      | true =>
        simp only [Bool.not_true, Bool.false_eq_true, if_false]
        exact w_go (hnx _ _ ⟨_, _, ns, rfl, e1, e2, sG, by omega, hfw⟩)
      | false =>
        simp only [Bool.not_false, if_true]
        refine w_cons ?_
        walk_at "y1"
        refine ⟨tm_app e2, bm_app e2 ?_ (w_go (w_go (hnx _ _ ⟨_, _, ns ++ [mixI n (45 + (0 + (i : Int))) % m], rfl, by rw [put_ne nDr]; exact e1, by rw [put_same, List.map_append]; rfl, ?_, by rw [List.length_append, List.length_singleton]; omega, fun x hx => ?_⟩)))⟩
        · rw [List.length_map]
          exact Nat.lt_of_le_of_lt (show ns.length ≤ 4 by omega) (by decide)
        · intro x o hx
          rw [put_ne]
          · exact sG x o hx
          · intro e; subst e; rw [nr] at hx; cases hx
        · rcases List.mem_append.mp hx with hx | hx
          · exact hfw x hx
          · rw [List.mem_singleton.mp hx]; omega
    · cases hx
  · obtain ⟨s3, s4, ns, rfl, e1, e2, sG, hl, hfw⟩ := hP
    rw [rngU_len] at hl
    exact w_go (w_room6 f1 a1 hd pd e1 e2 sG (by omega) hfw q)
theorem w_room {Γ : Gm} {E : XS} {us : List U} {G : Gp} {Q : UK} {X : XU} (f1 : Γ.fn f__law_mixed = sp_mixed) (a1 : Γ.ar f__law_mixed = 2) (h : sp_pure2 4 us G Q X) : wpSs Γ E ir__law_room (DF Q) (startU ce__law_room.N us) G := by
  obtain ⟨n, z, rfl, hn, q⟩ := h
  unfold ce__law_room
  refine w_cons ?_
  walk_at "y1"
  refine ⟨by decide, fun p np => w_go (w_cons ?_)⟩
  walk_at "y1"
  have m3 := mod_nn n (show (0 : Int) < 3 by decide)
  refine ⟨by decide, by omega, by omega, ?_⟩
  refine loop_inv _ (fun i σ G' => ∃ s3 s4 ns, σ = [some (.int n), some (.str z), some (.ref p), s3, s4, none, none, none] ∧ G' = put G p (.lst ((ns : List Int).map U.int)) ∧ ns.length ≤ i + 1 ∧ Few ns) ⟨none, none, [0], rfl, rfl, Nat.le_refl _, fun x hx => by rw [List.mem_singleton.mp hx]; decide⟩ (fun _ _ _ _ _ => trivial) (fun i x σ G' hx hP nx hnx => ?_) (fun σ G' hP => ?_)
  · obtain ⟨s3, s4, ns, rfl, rfl, hl, hfw⟩ := hP
    rw [rngU_get] at hx
    split at hx
    · rename_i hi
      cases hx
      simp only [gU, List.set_cons_succ, List.set_cons_zero]
      refine w_cons ?_
      walk_at "y1"
      simp only [addU]
      rw [f1, a1]
      refine ⟨rfl, n, _, rfl, by omega, by omega, by decide, w_go (w_cons ?_)⟩
      walk_at "y1"
      simp only [inU, rdL, lsG_put, fltU, true_and]
      refine ⟨flt_ints ns, ?_⟩
      have mm := mod_nn (mixI n (40 + (0 + (i : Int)))) (show (0 : Int) < 23 by decide)
      cases inF (.int (1 + mixI n (40 + (0 + (i : Int))) % 23)) (ns.map U.int) with
      | true =>
        simp only [Bool.not_true, Bool.false_eq_true, if_false]
        exact w_go (hnx _ _ ⟨_, _, ns, rfl, rfl, by omega, hfw⟩)
      | false =>
        simp only [Bool.not_false, if_true]
        refine w_cons ?_
        walk_at "y1"
        refine ⟨tm_app put_same, bm_app put_same ?_ (w_go (w_go (hnx _ _ ⟨_, _, ns ++ [1 + mixI n (40 + (0 + (i : Int))) % 23], rfl, ?_, by rw [List.length_append, List.length_singleton]; omega, fun x hx => ?_⟩)))⟩
        · rw [List.length_map]
          exact Nat.lt_of_le_of_lt (show ns.length ≤ 4 by omega) (by decide)
        · rw [put_put, List.map_append]
          rfl
        · rcases List.mem_append.mp hx with hx | hx
          · exact hfw x hx
          · rw [List.mem_singleton.mp hx]; omega
    · cases hx
  · obtain ⟨s3, s4, ns, rfl, rfl, hl, hfw⟩ := hP
    rw [rngU_len] at hl
    refine w_go (w_cons ?_)
    walk_at "y1"
    refine bi_sorted put_same fun ns' p2 h1 h2 n2 => ?_
    have hf2 := hfw.perm h1
    have hl2 : ns'.length ≤ 4 := by rw [h1.length_eq]; omega
    refine seq_l put_same fun D nD => ?_
    have ng : G p2 = none := (Sub.put np).none n2
    have sD : Sub G (put (put (put G p (.lst (ns.map U.int))) p2 (.lst (ns'.map U.int))) D (.lst [])) := ((Sub.put np).trans (Sub.put n2)).trans (Sub.put nD)
    have nD2 : p2 ≠ D := fun e => by subst e; rw [put_same] at nD; cases nD
    refine lc_map (fun u => match u with | .int o => .tup [.int o, .int (mixI n o % 41), .int (mixI n (o + 30) % 101)] | _ => .non) _ (fun l => by rw [put_ne nD2, put_same]; rfl) (fun x hx l K hK => ?_) (by rw [List.length_map]; exact Nat.le_trans hl2 (by decide)) ?_
    · obtain ⟨o, ho, rfl⟩ := List.mem_map.mp hx
      have hb := hf2 o ho
      simp only [gU, wipeU, List.set_cons_succ, List.set_cons_zero, List.getElem?_cons_succ, List.getElem?_cons_zero, addU]
      rw [f1, a1]
      exact ⟨rfl, n, o, rfl, by omega, by omega, by decide, rfl, n, o + 30, rfl, by omega, by omega, by decide, by decide, hK⟩
    have eD : (ns'.map U.int).map (fun u => match u with | .int o => U.tup [.int o, .int (mixI n o % 41), .int (mixI n (o + 30) % 101)] | _ => .non) = ns'.map fun o => U.tup [.int o, .int (mixI n o % 41), .int (mixI n (o + 30) % 101)] := by
      rw [List.map_map]
      rfl
    rw [eD]
    have nDG : G D = none := ((Sub.put np).trans (Sub.put n2)).none nD
    obtain ⟨days, hdays⟩ : ∃ d, (ns'.map fun o => U.tup [.int o, .int (mixI n o % 41), .int (mixI n (o + 30) % 101)]) = d := ⟨_, rfl⟩
    have pday : days.length ≤ 4 ∧ ∀ x ∈ days, PureN 2 x := by
      rw [← hdays]
      refine ⟨by rw [List.length_map]; exact hl2, fun x hx => ?_⟩
      obtain ⟨o, _, rfl⟩ := List.mem_map.mp hx
      exact pure_tup (by simp) fun y hy => by
        simp only [List.mem_cons, List.not_mem_nil, or_false] at hy
        rcases hy with rfl | rfl | rfl <;> exact pure_int
    rw [hdays]
    refine w_sub (G := put G D (.lst days)) ?_ (w_cons ?_)
    · intro x o hx
      by_cases e : x = D
      · subst e; rw [put_same] at hx ⊢; exact hx
      · rw [put_ne e] at hx
        rw [put_ne e]
        exact ((Sub.put np).trans (Sub.put n2)) x o hx
    walk_at "y1"
    refine ⟨by decide, fun r nr => w_go (w_cons ?_)⟩
    have nDr : D ≠ r := fun e => by subst e; rw [put_same] at nr; cases nr
    walk_at "y1"
    have m4 := mod_nn (n / 3) (show (0 : Int) < 3 by decide)
    refine ⟨dok (by decide) (by decide), by decide, by omega, by omega, ?_⟩
    exact w_room4 f1 a1 (by omega) pday.1 pday.2 nDG ((Sub.put nDG).none nr) nDr q
end Y

namespace Y
open PySem PySem.Spec PyProof.Rows L2
local macro_rules | `(tactic| walk_at "y1") => `(tactic| simp only [wpS, wpE, wpEs, wpO, wpC, wpI, binU, cmpU, intU, isB, partU, gU, gsU, startU, DF, List.map_cons, List.map_nil, List.length_cons, List.length_nil, List.cons_append, List.nil_append, List.replicate, List.getElem?_cons_zero, List.getElem?_cons_succ, List.set_cons_zero, List.set_cons_succ, true_and, and_true, if_true, Bool.false_eq_true, if_false, Nat.reduceAdd, Nat.reduceSub, w_nil])
/-! ### dicts by names -/
theorem getK_put (kvs : List (U × U)) (a b : Str) (v : U) : getK (putKU kvs (.str a) v) (.str b) = if a = b then some v else getK kvs (.str b) := by
  have key : ∀ kvs : List (U × U), (kvs.any fun kv => eqKy kv.1 (.str a)) = true → getK (kvs.map fun kv => if eqKy kv.1 (.str a) = true then (kv.1, v) else kv) (.str b) = if a = b then some v else getK kvs (.str b) := by
    intro kvs
    induction kvs with
    | nil => intro h; cases h
    | cons p r ih =>
      obtain ⟨u, x⟩ := p
      intro h
      rw [List.map_cons]
      by_cases hu : eqKy u (.str a) = true
      · have eu : u = .str a := by
          cases u <;> first
            | (exfalso; revert hu; simp [eqKy]; done)
            | (simp only [eqKy, decide_eq_true_eq] at hu; rw [hu])
        subst eu
        rw [if_pos (by exact hu), getK_cons, getK_cons]
        have ee : eqKy (.str a) (.str b) = decide (a = b) := rfl
        rw [ee]
        by_cases hab : a = b
        · simp [hab]
        · simp only [hab, decide_false, Bool.false_eq_true, if_false]
          by_cases hr : (r.any fun kv => eqKy kv.1 (.str a)) = true
          · rw [ih hr, if_neg hab]
          · have e0 : (r.map fun kv => if eqKy kv.1 (.str a) = true then (kv.1, v) else kv) = r := by
              rw [Bool.not_eq_true, List.any_eq_false] at hr
              conv => rhs; rw [← List.map_id r]
              refine List.map_congr_left fun x hx => ?_
              rw [if_neg (hr x hx)]
              rfl
            rw [e0]
      · rw [if_neg (by exact hu)]
        rw [List.any_cons] at h
        have hu' : eqKy u (.str a) = false := by simpa using hu
        simp only [hu', Bool.false_or] at h
        rw [getK_cons, getK_cons, ih h]
        by_cases hub : eqKy u (.str b) = true
        · rw [if_pos hub, if_pos hub]
          have hab : a ≠ b := fun z => hu (by rw [z]; exact hub)
          rw [if_neg hab]
        · rw [if_neg hub, if_neg hub]
  unfold putKU
  split
  · rename_i h
    exact key kvs h
  · rename_i h
    have e1 : ∀ (l : List (U × U)), getK (l ++ [(.str a, v)]) (.str b) = (getK l (.str b)).or (if a = b then some v else none) := by
      intro l
      induction l with
      | nil =>
        rw [List.nil_append, getK_cons]
        have ee : eqKy (.str a) (.str b) = decide (a = b) := rfl
        rw [ee]
        by_cases hab : a = b <;> simp [hab, getK]
      | cons p r ih =>
        obtain ⟨u, x⟩ := p
        rw [List.cons_append, getK_cons, getK_cons, ih]
        split <;> simp
    rw [e1]
    by_cases hab : a = b
    · subst hab
      have e2 : getK kvs (.str a) = none := by
        unfold getK
        rw [Bool.not_eq_true, List.any_eq_false] at h
        rw [List.find?_eq_none.mpr fun x hx => h x hx]
        rfl
      rw [e2]
      simp
    · simp [hab]
theorem put_len (kvs : List (U × U)) (k v : U) : (putKU kvs k v).length ≤ kvs.length + 1 := by
  unfold putKU
  split
  · rw [List.length_map]; omega
  · rw [List.length_append, List.length_singleton]; omega
/-! ### events in order -/
def endOf (e : Ev) : Int := match e.deed with
  | .lend m _ _ => e.at_ + m
  | _ => e.at_
def Ord (a b : Ev) : Prop := a.at_ ≤ b.at_ ∧ (a.name = b.name → endOf a ≤ b.at_)
structure GoodEv (evs : List Ev) : Prop where
  pw : evs.Pairwise Ord
  ok : ∀ e ∈ evs, 0 ≤ e.at_ ∧ e.at_ ≤ 1000000000 ∧ ∀ m w v, e.deed = .lend m w v → 1 ≤ m
theorem endOf_ge {e : Ev} (h : ∀ m w v, e.deed = .lend m w v → 1 ≤ m) : e.at_ ≤ endOf e := by
  unfold endOf
  split
  · rename_i m w v hd
    have := h _ _ _ hd
    omega
  · exact Int.le_refl _
theorem GoodEv.snoc {evs : List Ev} {e : Ev} (h : GoodEv evs) (h1 : ∀ a ∈ evs, Ord a e) (h2 : 0 ≤ e.at_ ∧ e.at_ ≤ 1000000000 ∧ ∀ m w v, e.deed = .lend m w v → 1 ≤ m) : GoodEv (evs ++ [e]) := by
  refine ⟨List.pairwise_append.mpr ⟨h.pw, List.pairwise_singleton _ _, fun a ha b hb => ?_⟩, fun x hx => ?_⟩
  · rw [List.mem_singleton.mp hb]; exact h1 a ha
  · rcases List.mem_append.mp hx with hx | hx
    · exact h.ok x hx
    · rw [List.mem_singleton.mp hx]; exact h2
/-- things -/
def isTh (x : U) : Prop := ∃ nm kd r b k, x = .tup [.str nm, .str kd, .str r, .str b, .int k]
def FreeOk (ts : List U) (kvs : List (U × U)) (evs : List Ev) : Prop := ∀ x ∈ ts, ∀ nm, nmOf x = some nm → ∃ v, getK kvs (.str nm) = some (.int v) ∧ ∀ e ∈ evs, e.name = nm → endOf e ≤ v
structure ArcR (G' : Gp) (k r b t e : Addr) (ks rs bs ts : List U) (evs : List Ev) : Prop where
  k : G' k = some (.lst ks)
  r : G' r = some (.lst rs)
  b : G' b = some (.lst bs)
  t : G' t = some (.lst ts)
  e : G' e = some (.lst (evs.map Ev.u))
  ks : ks.length ≤ 1000 ∧ ∀ x ∈ ks, PureN 4 x
  rs : rs.length ≤ 1000 ∧ ∀ x ∈ rs, PureN 4 x
  bs : bs.length ≤ 1000 ∧ ∀ x ∈ bs, PureN 4 x
  ts : ts ≠ [] ∧ ts.length ≤ 3 ∧ ∀ x ∈ ts, isTh x
  evs : GoodEv evs ∧ evs.length ≤ 63
def sp_archive : SpU := fun us G Q _ => ∃ ns gap, us = [.rl ((ns : List Int).map U.int), .int 40, .int gap] ∧ ns.length ≤ 63 ∧ 0 < gap ∧ ∀ G' k r b t e ks rs bs ts evs, Sub G G' → ArcR G' k r b t e ks rs bs ts evs → Q (.tup [.ref k, .ref r, .ref b, .ref t, .ref e]) G'
theorem isTh_nm {x : U} (h : isTh x) : ∃ nm, nmOf x = some nm ∧ ∃ y, x = .tup (.str nm :: y) := by
  obtain ⟨nm, kd, r, b, k, rfl⟩ := h
  exact ⟨nm, rfl, _, rfl⟩
theorem w_arc10 {Γ : Gm} {E : XS} {G G1 : Gp} {Q : UK} {ns : List Int} {gap : Int} {k r b t e d : Addr} {ks rs bs ts : List U} {kvs : List (U × U)} {s3 s6 s9 s10 s11 s12 s13 s17 s18 s19 s20 : Option U} (f1 : Γ.fn f__law_mixed = sp_mixed) (a1 : Γ.ar f__law_mixed = 2) (f2 : Γ.fn f__law_deed = sp_deed) (a2 : Γ.ar f__law_deed = 2)
    (hn : ns.length ≤ 63) (hg : 0 < gap) (sG : Sub G G1) (A : ArcR G1 k r b t e ks rs bs ts []) (gd : G1 d = some (.dic kvs)) (hd : kvs.length ≤ 10) (fr : FreeOk ts kvs []) (nk : k ≠ e) (nr : r ≠ e) (nb : b ≠ e) (nt : t ≠ e) (ge : G e = none) (gdn : G d = none)
    (q : ∀ G' evs, Sub G G' → ArcR G' k r b t e ks rs bs ts evs → Q (.tup [.ref k, .ref r, .ref b, .ref t, .ref e]) G') :
    wpSs Γ E ir__law_archive_10 (DF Q) [some (.rl (ns.map U.int)), some (.int 40), some (.int gap), s3, some (.ref k), some (.ref r), s6, some (.ref b), some (.ref t), s9, s10, s11, s12, s13, some (.ref e), some (.ref d), some (.int 0), s17, s18, s19, s20] G1 := by
  refine w_cons ?_
  walk_at "y1"
  simp only [addU, slcU]
  intro L nL
  have dif : ∀ {x : Addr} {o : GO}, G1 x = some o → x ≠ L := fun h z => by subst z; rw [h] at nL; cases nL
  have up : ∀ {x : Addr} {o : GO}, G1 x = some o → put G1 L (.lst (cutU (ns.map U.int) (some 5) (some (5 + 40)))) x = some o := fun h => by rw [put_ne (dif h)]; exact h
  obtain ⟨cs, hcs, hcl⟩ : ∃ cs : List Int, cutU (ns.map U.int) (some 5) (some (5 + 40)) = cs.map U.int ∧ cs.length ≤ 63 := by
    unfold cutU
    rw [← List.map_drop, ← List.map_take]
    refine ⟨_, rfl, ?_⟩
    rw [List.length_take, List.length_drop]
    omega
  rw [hcs] at up ⊢
  refine enm_l put_same ?_
  refine loop_inv _ (fun i σ G' => ∃ s9 s10 s11 s17 s18 s19 h evs kvs, σ = [some (.rl (ns.map U.int)), some (.int 40), some (.int gap), s3, some (.ref k), some (.ref r), s6, some (.ref b), some (.ref t), s9, s10, s11, s12, s13, some (.ref e), some (.ref d), some (.int h), s17, s18, s19, s20] ∧
      Sub G G' ∧ ArcR G' k r b t e ks rs bs ts evs ∧ G' d = some (.dic kvs) ∧ G' L = some (.lst (cs.map U.int)) ∧ kvs.length ≤ 10 + i ∧ FreeOk ts kvs evs ∧ 0 ≤ h ∧ h ≤ 1000000000 ∧ (∀ e ∈ evs, e.at_ ≤ h) ∧ evs.length ≤ i)
    ⟨s9, s10, s11, s17, s18, s19, 0, [], kvs, rfl, sG.trans (Sub.put nL), ⟨up A.k, up A.r, up A.b, up A.t, up A.e, A.ks, A.rs, A.bs, A.ts, A.evs⟩, up gd, put_same, by omega, fr, by decide, by decide, (fun _ h => nomatch h), Nat.le_refl _⟩ (fun i σ G' _ hP => ?_) (fun i x σ G' hx hP nx hnx => ?_) (fun σ G' hP => ?_)
  · obtain ⟨_, _, _, _, _, _, _, _, _, _, _, _, _, e, _⟩ := hP
    exact lsG_of e
  · obtain ⟨s9, s10, s11, s17, s18, s19, h, evs, kvs, rfl, sG', A', gd', gL, hkl, fr', h0, h1, hat, hel⟩ := hP
    rw [enU_get, List.getElem?_map, Option.map_map, Option.map_eq_some_iff] at hx
    obtain ⟨c, hc, rfl⟩ := hx
    have hi : i < cs.length := by
      by_cases hi : i < cs.length
      · exact hi
      · rw [List.getElem?_eq_none (by omega)] at hc; cases hc
    simp only [Function.comp, gU, gsU, List.set_cons_succ, List.set_cons_zero]
    refine w_cons ?_
    walk_at "y1"
    simp only [addU]
    rw [f1, a1]
    refine ⟨rfl, c, _, rfl, by omega, by omega, w_go (w_cons ?_)⟩
    obtain ⟨nu, hnu⟩ : ∃ nu, mixI c (((0 + i : Nat) : Int) + 65) = nu := ⟨_, rfl⟩
    rw [hnu]
    have hnn : 0 ≤ nu := by rw [← hnu]; exact (mixI_nn _ _).1
    walk_at "y1"
    refine ⟨by decide, dok (by decide) (by decide), hg, dok (by decide) (by decide), by decide, by decide, fun p np => ⟨by decide, ?_⟩⟩
    refine pick put_same (mod_nn _ (by decide)).1 (mod_nn _ (by decide)).2 fun x hx => ?_
    have hx' : ∃ m : Int, 0 ≤ m ∧ x = .int m := by
      have g2 := mod_nn (nu / 3) hg
      have g3 := mod_nn (nu / 3) (show (0 : Int) < 7 by decide)
      simp only [List.mem_cons, List.not_mem_nil, or_false] at hx
      rcases hx with rfl | rfl | rfl
      · exact ⟨0, by decide, rfl⟩
      · exact ⟨_, g2.1, rfl⟩
      · exact ⟨_, g3.1, rfl⟩
    obtain ⟨m, hm0, rfl⟩ := hx'
    simp only [addU]
    refine bi_min (w_sub (Sub.put np) (w_cons ?_))
    obtain ⟨h2, hh2⟩ : ∃ h2, (if h + m < (10 : Int) ^ (9 : Int).toNat then h + m else (10 : Int) ^ (9 : Int).toNat) = h2 := ⟨_, rfl⟩
    have b2 : h ≤ h2 ∧ h2 ≤ 1000000000 := by
      rw [← hh2, show (10 : Int) ^ (9 : Int).toNat = 1000000000 from rfl]
      split <;> omega
    rw [hh2]
    walk_at "y1"
    refine ⟨dok (by decide) (by decide), bi_len A'.t ?_⟩
    have tl : (0 : Int) < (ts.length : Int) := by
      have := A.ts.1
      cases ts with
      | nil => exact absurd rfl this
      | cons _ _ => rw [List.length_cons]; omega
    refine ⟨tl, ?_⟩
    refine pick A'.t (mod_nn _ tl).1 (mod_nn _ tl).2 fun x hx => ?_
    obtain ⟨nm, hnm, y, rfl⟩ := isTh_nm (A'.ts.2.2 x hx)
    refine ix_t (atI_nat (j := 0) rfl) (w_go (w_cons ?_))
    walk_at "y1"
    rw [f2, a2]
    refine ⟨dok (by decide) (by decide), rfl, _, h2, rfl, fun dd u hdd => w_go (w_cons ?_)⟩
    obtain ⟨v, hv1, hv2⟩ := fr' _ hx nm hnm
    walk_at "y1"
    refine ix_d gd' rfl hv1 ?_
    by_cases hvh : v ≤ h2
    · simp only [hvh, decide_true, if_true]
      refine w_cons ?_
      walk_at "y1"
      refine ⟨tm_app A'.e, by decide, bm_app A'.e ?_ (w_go (w_cons ?_))⟩
      · rw [List.length_map]
        exact Nat.lt_of_le_of_lt (show evs.length ≤ 63 by omega) (by decide)
      have ned : e ≠ d := fun z => by subst z; have := A'.e.symm.trans gd'; cases this
      have nLe : L ≠ e := Ne.symm (dif A.e)
      have nLd : L ≠ d := Ne.symm (dif gd)
      walk_at "y1"
      refine set_d (by rw [put_ne (Ne.symm ned)]; exact gd') rfl (Nat.lt_of_le_of_lt (show kvs.length ≤ 73 by omega) (by decide)) (w_go (w_go ?_))
      have kd : ∀ {x : Addr} {zs : List U}, G' x = some (.lst zs) → x ≠ d := fun h z => by subst z; have := h.symm.trans gd'; cases this
      have lk : ∀ {x : Addr} {zs : List U} {o o' : GO}, G' x = some (.lst zs) → x ≠ e → put (put G' e o) d o' x = some (.lst zs) := fun h he => by rw [put_ne (kd h), put_ne he]; exact h
      have ordok : ∀ a ∈ evs, Ord a ⟨h2, nm, dd⟩ := fun a ha => by
        have := hat a ha
        refine ⟨by show a.at_ ≤ h2; omega, fun hna => ?_⟩
        have := hv2 a ha hna
        show endOf a ≤ h2
        omega
      have ddok : ∀ m w v, dd = .lend m w v → 1 ≤ m := fun m w v hz => by subst hz; exact hdd.1
      have uend : endOf ⟨h2, nm, dd⟩ = u := by
        unfold endOf
        cases dd <;> first
          | exact hdd.symm
          | exact hdd.2.2.symm
      refine hnx _ _ ⟨_, _, _, _, _, _, h2, evs ++ [⟨h2, nm, dd⟩], _, rfl, ?_, ⟨lk A'.k nk, lk A'.r nr, lk A'.b nb, lk A'.t nt, ?_, A'.ks, A'.rs, A'.bs, A'.ts, A'.evs.1.snoc ordok ⟨by show 0 ≤ h2; omega, b2.2, ddok⟩, ?_⟩, put_same, lk gL nLe, ?_, ?_, by omega, b2.2, ?_, ?_⟩
      · intro x o hx
        rw [put_ne, put_ne]
        · exact sG' x o hx
        · intro z; subst z; rw [ge] at hx; cases hx
        · intro z; subst z; rw [gdn] at hx; cases hx
      · rw [put_ne ned, put_same, List.map_append]; rfl
      · rw [List.length_append, List.length_singleton]; omega
      · have := put_len kvs (.str nm) (.int u)
        omega
      · intro x hx nm' hnm'
        obtain ⟨v', h1', h2'⟩ := fr' x hx nm' hnm'
        rw [getK_put]
        by_cases enm : nm = nm'
        · rw [if_pos enm]
          refine ⟨u, rfl, fun e he hen => ?_⟩
          rcases List.mem_append.mp he with he | he
          · have := (ordok e he).2 (by show e.name = nm; rw [hen, enm])
            have := endOf_ge (e := ⟨h2, nm, dd⟩) ddok
            rw [uend] at this
            have e3 : endOf e ≤ h2 := by assumption
            have e4 : h2 ≤ u := this
            omega
          · rw [List.mem_singleton.mp he, uend]
            exact Int.le_refl _
        · rw [if_neg enm]
          refine ⟨v', h1', fun e he hen => ?_⟩
          rcases List.mem_append.mp he with he | he
          · exact h2' e he hen
          · rw [List.mem_singleton.mp he] at hen
            exact absurd hen enm
      · intro a ha
        rcases List.mem_append.mp ha with ha | ha
        · have := hat a ha; omega
        · rw [List.mem_singleton.mp ha]; exact Int.le_refl _
      · rw [List.length_append, List.length_singleton]; omega
    · simp only [hvh, decide_false, Bool.false_eq_true, if_false]
      refine w_go (hnx _ _ ⟨_, _, _, _, _, _, h2, evs, kvs, rfl, sG', A', gd', gL, by omega, fr', by omega, b2.2, fun a ha => ?_, by omega⟩)
      have := hat a ha
      omega
  · obtain ⟨s9, s10, s11, s17, s18, s19, h, evs, kvs, rfl, sG', A', gd', gL, hkl, fr', h0, h1, hat, hel⟩ := hP
    refine w_go (w_cons ?_)
    walk_at "y1"
    exact ⟨by decide, w_go (q G' evs sG' A')⟩
end Y

namespace Y
open PySem PySem.Spec PyProof.Rows L2
local macro_rules | `(tactic| walk_at "y1") => `(tactic| simp only [wpS, wpE, wpEs, wpO, wpC, wpI, binU, cmpU, intU, isB, partU, gU, gsU, startU, DF, List.map_cons, List.map_nil, List.length_cons, List.length_nil, List.cons_append, List.nil_append, List.replicate, List.getElem?_cons_zero, List.getElem?_cons_succ, List.set_cons_zero, List.set_cons_succ, true_and, and_true, if_true, Bool.false_eq_true, if_false, Nat.reduceAdd, Nat.reduceSub, w_nil])
/-- pairs of a row of things: their names and nought -/
theorem pairs_names : ∀ (ts : List U), (∀ x ∈ ts, isTh x) → ∃ kvs, pairsU (ts.map fun u => match u with | .tup (.str z :: _) => U.tup [.str z, .int 0] | _ => .non) = some kvs ∧ kvs.length = ts.length ∧ (∀ p ∈ kvs, ∃ z, p = (.str z, .int 0)) ∧ ∀ x ∈ ts, ∀ nm, nmOf x = some nm → (U.str nm, U.int 0) ∈ kvs
  | [], _ => ⟨[], rfl, rfl, (fun _ h => nomatch h), fun _ h => nomatch h⟩
  | x :: ts, h => by
    obtain ⟨kvs, h1, h2, h3, h4⟩ := pairs_names ts fun y hy => h y (List.mem_cons_of_mem _ hy)
    obtain ⟨nm, kd, r, b, k, rfl⟩ := h x List.mem_cons_self
    refine ⟨(.str nm, .int 0) :: kvs, ?_, by rw [List.length_cons, List.length_cons, h2], fun p hp => ?_, fun y hy nm' hn => ?_⟩
    · rw [List.map_cons]
      simp only [pairsU, keyU, h1]
    · rcases List.mem_cons.mp hp with e | hp
      · exact ⟨nm, e⟩
      · exact h3 p hp
    · rcases List.mem_cons.mp hy with e | hy
      · subst e
        cases hn
        exact List.mem_cons_self
      · exact List.mem_cons_of_mem _ (h4 y hy nm' hn)
theorem merge_names : ∀ (kvs acc : List (U × U)), (∀ p ∈ kvs, ∃ z, p = (U.str z, U.int 0)) → (mergeU acc kvs).length ≤ acc.length + kvs.length ∧ ∀ nm, ((U.str nm, U.int 0) ∈ kvs ∨ getK acc (.str nm) = some (.int 0)) → getK (mergeU acc kvs) (.str nm) = some (.int 0)
  | [], acc, _ => ⟨Nat.le_refl _, fun nm h => by
    rcases h with h | h
    · cases h
    · exact h⟩
  | p :: kvs, acc, h => by
    obtain ⟨z, rfl⟩ := h p List.mem_cons_self
    obtain ⟨h1, h2⟩ := merge_names kvs (putKU acc (.str z) (.int 0)) fun q hq => h q (List.mem_cons_of_mem _ hq)
    have e : mergeU acc ((.str z, .int 0) :: kvs) = mergeU (putKU acc (.str z) (.int 0)) kvs := rfl
    rw [e]
    refine ⟨?_, fun nm hh => h2 nm ?_⟩
    · have := put_len acc (.str z) (.int 0)
      rw [List.length_cons]
      omega
    · rw [getK_put]
      by_cases ez : z = nm
      · rw [if_pos ez]; exact .inr rfl
      · rw [if_neg ez]
        rcases hh with hh | hh
        · rcases List.mem_cons.mp hh with hh | hh
          · cases hh; exact absurd rfl ez
          · exact .inl hh
        · exact .inr hh
theorem w_arc7 {Γ : Gm} {E : XS} {G G1 : Gp} {Q : UK} {ns : List Int} {gap : Int} {k r b t : Addr} {ks rs bs ts : List U} {s3 s6 s9 s10 s11 s12 s13 s14 s15 s16 s17 s18 s19 s20 : Option U} (f1 : Γ.fn f__law_mixed = sp_mixed) (a1 : Γ.ar f__law_mixed = 2) (f2 : Γ.fn f__law_deed = sp_deed) (a2 : Γ.ar f__law_deed = 2)
    (hn : ns.length ≤ 63) (hg : 0 < gap) (sG : Sub G G1) (gk : G1 k = some (.lst ks)) (gr : G1 r = some (.lst rs)) (gb : G1 b = some (.lst bs)) (gt : G1 t = some (.lst ts)) (hk : ks.length ≤ 1000 ∧ ∀ x ∈ ks, PureN 4 x) (hr : rs.length ≤ 1000 ∧ ∀ x ∈ rs, PureN 4 x) (hb : bs.length ≤ 1000 ∧ ∀ x ∈ bs, PureN 4 x)
    (ht : ts ≠ [] ∧ ts.length ≤ 3 ∧ ∀ x ∈ ts, isTh x) (q : ∀ G' e evs, Sub G G' → ArcR G' k r b t e ks rs bs ts evs → Q (.tup [.ref k, .ref r, .ref b, .ref t, .ref e]) G') :
    wpSs Γ E ir__law_archive_7 (DF Q) [some (.rl (ns.map U.int)), some (.int 40), some (.int gap), s3, some (.ref k), some (.ref r), s6, some (.ref b), some (.ref t), s9, s10, s11, s12, s13, s14, s15, s16, s17, s18, s19, s20] G1 := by
  refine w_cons ?_
  walk_at "y1"
  refine ⟨by decide, fun e ne => w_go (w_cons ?_)⟩
  have se := Sub.put (o := .lst []) ne
  obtain ⟨G2, hG2⟩ : ∃ G2, put G1 e (.lst []) = G2 := ⟨_, rfl⟩
  have ge2 : G2 e = some (.lst []) := by rw [← hG2]; exact put_same
  rw [hG2] at se ⊢
  walk_at "y1"
  refine seq_l (se _ _ gt) fun D nD => ?_
  have sD := Sub.put (o := .lst []) nD
  have nDt : t ≠ D := Ne.symm (ne_of (se _ _ gt) nD)
  refine lc_map (fun u => match u with | .tup (.str z :: _) => U.tup [.str z, .int 0] | _ => .non) _ (fun l => by rw [put_ne nDt]; exact lsG_of (se _ _ gt)) (fun x hx l K hK => ?_) (Nat.le_trans ht.2.1 (by decide)) ?_
  · obtain ⟨nm, kd, r', b', k', rfl⟩ := ht.2.2 x hx
    simp only [gU, wipeU, List.set_cons_succ, List.set_cons_zero, List.getElem?_cons_succ, List.getElem?_cons_zero]
    exact ix_t (atI_nat (j := 0) rfl) ⟨by decide, hK⟩
  obtain ⟨kvs, p1, p2, p3, p4⟩ := pairs_names ts ht.2.2
  refine bi_dict put_same p1 fun d nd => w_go (w_cons ?_)
  obtain ⟨m1, m2⟩ := merge_names kvs [] p3
  have sub3 : Sub G2 (put (put G2 D (.lst (ts.map fun u => match u with | .tup (.str z :: _) => U.tup [.str z, .int 0] | _ => .non))) d (.dic (mergeU [] kvs))) := (Sub.put nD).trans (Sub.put nd)
  have nd2 : G2 d = none := (Sub.put nD).none nd
  obtain ⟨G3, hG3⟩ : ∃ G3, put (put G2 D (.lst (ts.map fun u => match u with | .tup (.str z :: _) => U.tup [.str z, .int 0] | _ => .non))) d (.dic (mergeU [] kvs)) = G3 := ⟨_, rfl⟩
  have gd3 : G3 d = some (.dic (mergeU [] kvs)) := by rw [← hG3]; exact put_same
  rw [hG3] at sub3 ⊢
  walk_at "y1"
  have s13' := se.trans sub3
  have gen : G e = none := sG.none ne
  have gdn : G d = none := (sG.trans se).none nd2
  refine w_go (w_arc10 f1 a1 f2 a2 hn hg (sG.trans s13') ⟨s13' _ _ gk, s13' _ _ gr, s13' _ _ gb, s13' _ _ gt, sub3 _ _ ge2, hk, hr, hb, ht, ⟨List.Pairwise.nil, fun _ h => nomatch h⟩, Nat.zero_le _⟩ gd3 ?_ (fun x hx nm hnm => ⟨0, m2 nm (.inl (p4 x hx nm hnm)), fun _ h => nomatch h⟩) (Ne.symm (ne_of gk ne)) (Ne.symm (ne_of gr ne)) (Ne.symm (ne_of gb ne)) (Ne.symm (ne_of gt ne)) gen gdn fun G' evs z1 z2 => q G' e evs z1 z2)
  rw [List.length_nil, p2] at m1
  have := ht.2.1
  omega
end Y

namespace Y
open PySem PySem.Spec PyProof.Rows L2
local macro_rules | `(tactic| walk_at "y1") => `(tactic| simp only [wpS, wpE, wpEs, wpO, wpC, wpI, binU, cmpU, intU, isB, partU, gU, gsU, startU, DF, List.map_cons, List.map_nil, List.length_cons, List.length_nil, List.cons_append, List.nil_append, List.replicate, List.getElem?_cons_zero, List.getElem?_cons_succ, List.set_cons_zero, List.set_cons_succ, true_and, and_true, if_true, Bool.false_eq_true, if_false, Nat.reduceAdd, Nat.reduceSub, w_nil])
theorem strs2 {x : U} {a b : Str} (h : x ∈ [U.str a, U.str b]) : ∃ z, x = .str z := by
  simp only [List.mem_cons, List.not_mem_nil, or_false] at h
  rcases h with rfl | rfl <;> exact ⟨_, rfl⟩
theorem w_arc5 {Γ : Gm} {E : XS} {G G1 : Gp} {Q : UK} {ns : List Int} {gap : Int} {k r b D : Addr} {ks rs bs : List U} {o0 o1 o2 o3 o4 : Int} {s6 s8 s9 s10 s11 s12 s13 s14 s15 s16 s17 s18 s19 s20 : Option U} (f1 : Γ.fn f__law_mixed = sp_mixed) (a1 : Γ.ar f__law_mixed = 2) (f2 : Γ.fn f__law_deed = sp_deed) (a2 : Γ.ar f__law_deed = 2)
    (f3 : Γ.fn f__law_cell_at = sp_cell) (a3 : Γ.ar f__law_cell_at = 2) (hn : ns.length ≤ 63) (hg : 0 < gap) (sG : Sub G G1) (gD : G1 D = some (.lst [.int o0, .int o1, .int o2, .int o3, .int o4])) (gk : G1 k = some (.lst ks)) (gr : G1 r = some (.lst rs)) (gb : G1 b = some (.lst bs)) (hk : ks.length ≤ 1000 ∧ ∀ x ∈ ks, PureN 4 x) (hr : rs.length ≤ 1000 ∧ ∀ x ∈ rs, PureN 4 x) (hb : bs.length ≤ 1000 ∧ ∀ x ∈ bs, PureN 4 x)
    (q : ∀ G' t e ts evs, Sub G G' → ArcR G' k r b t e ks rs bs ts evs → Q (.tup [.ref k, .ref r, .ref b, .ref t, .ref e]) G') :
    wpSs Γ E ir__law_archive_5 (DF Q) [some (.rl (ns.map U.int)), some (.int 40), some (.int gap), some (.ref D), some (.ref k), some (.ref r), s6, some (.ref b), s8, s9, s10, s11, s12, s13, s14, s15, s16, s17, s18, s19, s20] G1 := by
  refine w_cons ?_
  walk_at "y1"
  refine ⟨by decide, fun t nt => w_go (w_cons ?_)⟩
  have st := Sub.put (o := .lst []) nt
  obtain ⟨G2, hG2⟩ : ∃ G2, put G1 t (.lst []) = G2 := ⟨_, rfl⟩
  have gt2 : G2 t = some (.lst []) := by rw [← hG2]; exact put_same
  rw [hG2] at st ⊢
  walk_at "y1"
  refine ⟨by decide, fun N nN => ?_⟩
  have sN := Sub.put (o := .lst [.str (S [118, 97, 115, 101]), .str (S [109, 97, 112]), .str (S [114, 111, 98, 101])]) nN
  refine ix_l (sN _ _ (st _ _ gD)) (atI_nat (j := 4) rfl) ?_
  simp only [addU]
  refine ⟨dok (by decide) (by decide), by decide, slc_l put_same fun L nL => ?_⟩
  have m3 := mod_nn (o4 / 7) (show (0 : Int) < 3 by decide)
  obtain ⟨nms, hnms, hl1, hl3⟩ : ∃ nms : List Str, cutU [.str (S [118, 97, 115, 101]), .str (S [109, 97, 112]), .str (S [114, 111, 98, 101])] none (some (1 + o4 / 7 % 3)) = nms.map U.str ∧ 1 ≤ nms.length ∧ nms.length ≤ 3 := by
    have : o4 / 7 % 3 = 0 ∨ o4 / 7 % 3 = 1 ∨ o4 / 7 % 3 = 2 := by omega
    rcases this with e | e | e <;> rw [e]
    · exact ⟨[S [118, 97, 115, 101]], rfl, by decide, by decide⟩
    · exact ⟨[S [118, 97, 115, 101], S [109, 97, 112]], rfl, by decide, by decide⟩
    · exact ⟨[S [118, 97, 115, 101], S [109, 97, 112], S [114, 111, 98, 101]], rfl, by decide, by decide⟩
  rw [hnms]
  refine enm_l put_same ?_
  have sL := Sub.put (o := .lst (nms.map U.str)) nL
  have s2L := sN.trans sL
  have nLt : L ≠ t := fun e => by subst e; rw [sN _ _ gt2] at nL; cases nL
  have gtn : G1 t = none := nt
  refine loop_inv _ (fun i σ G' => ∃ s9 s10 s11 s12 s13 ts, σ = [some (.rl (ns.map U.int)), some (.int 40), some (.int gap), some (.ref D), some (.ref k), some (.ref r), s6, some (.ref b), some (.ref t), s9, s10, s11, s12, s13, s14, s15, s16, s17, s18, s19, s20] ∧
      Sub G1 G' ∧ G' t = some (.lst ts) ∧ G' L = some (.lst (nms.map U.str)) ∧ ts.length = i ∧ ∀ x ∈ ts, isTh x)
    ⟨s9, s10, s11, s12, s13, [], rfl, st.trans s2L, s2L _ _ gt2, put_same, rfl, fun _ h => nomatch h⟩ (fun i σ G' _ hP => ?_) (fun i x σ G' hx hP nx hnx => ?_) (fun σ G' hP => ?_)
  · obtain ⟨_, _, _, _, _, _, _, _, _, e, _⟩ := hP
    exact lsG_of e
  · obtain ⟨s9, s10, s11, s12, s13, ts, rfl, sG', gt, gL, hl, hth⟩ := hP
    rw [enU_get, List.getElem?_map, Option.map_map, Option.map_eq_some_iff] at hx
    obtain ⟨nm, hc, rfl⟩ := hx
    have hi : i < nms.length := by
      by_cases hi : i < nms.length
      · exact hi
      · rw [List.getElem?_eq_none (by omega)] at hc; cases hc
    simp only [Function.comp, gU, gsU, List.set_cons_succ, List.set_cons_zero]
    refine w_cons ?_
    walk_at "y1"
    simp only [addU]
    rw [f3, a3, f1, a1]
    refine ⟨rfl, ns, _, rfl, hn, rfl, _, _, rfl, by omega, by omega, w_go (w_cons ?_)⟩
    obtain ⟨nu, hnu⟩ : ∃ nu, mixI (cellAt ns (((0 + i : Nat) : Int) + 2)) (((0 + i : Nat) : Int) + 60) = nu := ⟨_, rfl⟩
    rw [hnu]
    walk_at "y1"
    refine ⟨dok (by decide) (by decide), by decide, dok (by decide) (by decide), by decide, by decide, by decide, fun p np => ⟨by decide, ?_⟩⟩
    refine pick put_same (mod_nn _ (by decide)).1 (mod_nn _ (by decide)).2 fun x hx => ?_
    have hx' : ∃ m : Int, x = .int m := by
      simp only [List.mem_cons, List.not_mem_nil, or_false] at hx
      rcases hx with rfl | rfl | rfl <;> exact ⟨_, rfl⟩
    obtain ⟨parts, rfl⟩ := hx'
    refine w_sub (Sub.put np) (w_cons ?_)
    walk_at "y1"
    refine ⟨by decide, fun p1 n1 => ⟨dok (by decide) (by decide), by decide, pick put_same (mod_nn _ (by decide)).1 (mod_nn _ (by decide)).2 fun x hx => ?_⟩⟩
    obtain ⟨z1, rfl⟩ := strs2 hx
    refine ⟨by decide, fun p2 n2 => ⟨dok (by decide) (by decide), by decide, pick put_same (mod_nn _ (by decide)).1 (mod_nn _ (by decide)).2 fun x hx => ?_⟩⟩
    obtain ⟨z2, rfl⟩ := strs2 hx
    refine ⟨by decide, w_sub ((Sub.put n1).trans (Sub.put n2)) (w_cons ?_)⟩
    walk_at "y1"
    refine ⟨tm_app gt, by decide, fun p3 n3 => ⟨dok (by decide) (by decide), by decide, pick put_same (mod_nn _ (by decide)).1 (mod_nn _ (by decide)).2 fun x hx => ?_⟩⟩
    obtain ⟨z3, rfl⟩ := strs2 hx
    refine ⟨by decide, ?_⟩
    simp only [addU]
    refine ⟨(by decide : (4 : Nat) ≤ sizeLine), by decide, (by decide : (5 : Nat) ≤ sizeLine), ?_⟩
    have gt3 : put G' p3 (.lst [.str (S [115, 105, 108, 107]), .str (S [99, 108, 97, 121])]) t = some (.lst ts) := put_at gt n3
    refine bm_app gt3 (Nat.lt_of_le_of_lt (show ts.length ≤ 3 by omega) (by decide)) ?_
    refine w_sub (G := put G' t (.lst (ts ++ [.tup [.str nm, .str z3, .str z1, .str z2, .int parts]]))) ?_ (hnx _ _ ⟨_, _, _, _, _, _, rfl, ?_, put_same, ?_, ?_, ?_⟩)
    · intro x o hx
      by_cases e2 : x = t
      · subst e2; rw [put_same] at hx ⊢; exact hx
      · rw [put_ne e2] at hx ⊢
        exact Sub.put n3 x o hx
    · intro x o hx
      rw [put_ne]
      · exact sG' x o hx
      · intro e; subst e; rw [gtn] at hx; cases hx
    · rw [put_ne nLt]; exact gL
    · rw [List.length_append, List.length_singleton, hl]
    · intro x hx
      rcases List.mem_append.mp hx with hx | hx
      · exact hth x hx
      · rw [List.mem_singleton.mp hx]
        exact ⟨nm, z3, z1, z2, parts, rfl⟩
  · obtain ⟨s9, s10, s11, s12, s13, ts, rfl, sG', gt, gL, hl, hth⟩ := hP
    rw [enU_len, List.length_map] at hl
    refine w_go (w_arc7 f1 a1 f2 a2 hn hg (sG.trans sG') (sG' _ _ gk) (sG' _ _ gr) (sG' _ _ gb) gt hk hr hb ⟨fun e => by rw [e] at hl; simp at hl; omega, by omega, hth⟩ fun G2 e evs z1 z2 => q G2 t e ts evs z1 z2)
theorem w_archive {Γ : Gm} {E : XS} {us : List U} {G : Gp} {Q : UK} {X : XU} (f1 : Γ.fn f__law_mixed = sp_mixed) (a1 : Γ.ar f__law_mixed = 2) (f2 : Γ.fn f__law_deed = sp_deed) (a2 : Γ.ar f__law_deed = 2) (f3 : Γ.fn f__law_cell_at = sp_cell) (a3 : Γ.ar f__law_cell_at = 2)
    (f4 : Γ.fn f__law_kind = sp_pure2 4) (a4 : Γ.ar f__law_kind = 2) (f5 : Γ.fn f__law_room = sp_pure2 4) (a5 : Γ.ar f__law_room = 2) (h : sp_archive us G Q X) : wpSs Γ E ir__law_archive (DF Q) (startU ce__law_archive.N us) G := by
  obtain ⟨ns, gap, rfl, hn, hg, q⟩ := h
  unfold ce__law_archive
  refine w_cons ?_
  walk_at "y1"
  refine ⟨by decide, by decide, fun D nD => ?_⟩
  refine lc_map (fun u => match u with | .int k => .int (mixI (cellAt ns k) (k + 50)) | _ => .non) _ (fun _ => trivial) (fun x hx l K hK => ?_) (by decide) ?_
  · obtain ⟨k, hk, rfl⟩ := List.mem_map.mp hx
    rw [List.mem_range] at hk
    have hk5 : k < 5 := hk
    simp only [wipeU, List.set_cons_succ, List.set_cons_zero, List.getElem?_cons_succ, List.getElem?_cons_zero, addU]
    rw [f3, a3, f1, a1]
    exact ⟨rfl, ns, _, rfl, hn, rfl, _, _, rfl, by omega, by omega, hK⟩
  obtain ⟨o0, o1, o2, o3, o4, hO, p0, p1, p2, p3, p4⟩ : ∃ o0 o1 o2 o3 o4 : Int, (rngU 0 (5 : Int).toNat).map (fun u => match u with | .int k => U.int (mixI (cellAt ns k) (k + 50)) | _ => .non) = [.int o0, .int o1, .int o2, .int o3, .int o4] ∧ 0 ≤ o0 ∧ 0 ≤ o1 ∧ 0 ≤ o2 ∧ 0 ≤ o3 ∧ 0 ≤ o4 :=
    ⟨_, _, _, _, _, rfl, (mixI_nn _ _).1, (mixI_nn _ _).1, (mixI_nn _ _).1, (mixI_nn _ _).1, (mixI_nn _ _).1⟩
  rw [hO]
  have sD := Sub.put (o := .lst [.int o0, .int o1, .int o2, .int o3, .int o4]) nD
  obtain ⟨G1, hG1⟩ : ∃ G1, put G D (.lst [.int o0, .int o1, .int o2, .int o3, .int o4]) = G1 := ⟨_, rfl⟩
  have gD : G1 D = some (.lst [.int o0, .int o1, .int o2, .int o3, .int o4]) := by rw [← hG1]; exact put_same
  rw [hG1] at sD ⊢
  refine w_go (w_cons ?_)
  walk_at "y1"
  refine ix_l gD (atI_nat (j := 0) rfl) ?_
  rw [f4, a4]
  refine ⟨rfl, o0, _, rfl, p0, fun k0 pk0 => ix_l gD (atI_nat (j := 1) rfl) ⟨rfl, o1, _, rfl, p1, fun k1 pk1 => ⟨by decide, fun k nk => w_go (w_cons ?_)⟩⟩⟩
  have sk := Sub.put (o := .lst [k0, k1]) nk
  obtain ⟨G2, hG2⟩ : ∃ G2, put G1 k (.lst [k0, k1]) = G2 := ⟨_, rfl⟩
  have gk : G2 k = some (.lst [k0, k1]) := by rw [← hG2]; exact put_same
  rw [hG2] at sk ⊢
  walk_at "y1"
  refine ix_l (sk _ _ gD) (atI_nat (j := 2) rfl) ?_
  rw [f5, a5]
  refine ⟨rfl, o2, _, rfl, p2, fun r0 pr0 => ix_l (sk _ _ gD) (atI_nat (j := 3) rfl) ⟨rfl, o3, _, rfl, p3, fun r1 pr1 => ⟨by decide, fun r nr => w_go (w_cons ?_)⟩⟩⟩
  have sr := Sub.put (o := .lst [r0, r1]) nr
  obtain ⟨G3, hG3⟩ : ∃ G3, put G2 r (.lst [r0, r1]) = G3 := ⟨_, rfl⟩
  have gr : G3 r = some (.lst [r0, r1]) := by rw [← hG3]; exact put_same
  rw [hG3] at sr ⊢
  walk_at "y1"
  refine ix_l (sr _ _ (sk _ _ gD)) (atI_nat (j := 4) rfl) ⟨by decide, w_go (w_cons ?_)⟩
  have m4 := mod_nn o4 (show (0 : Int) < 101 by decide)
  walk_at "y1"
  refine ix_l (sr _ _ (sk _ _ gD)) (atI_nat (j := 4) rfl) ⟨dok (by decide) (by decide), by omega, ?_⟩
  simp only [addU]
  refine ⟨by decide, by decide, fun b nb => w_go ?_⟩
  obtain ⟨bx, hbx⟩ : ∃ bx, [U.tup [.str (S [99, 104, 101, 115, 116]), .int (o4 % 101), .int (o4 % 101 + o4 / 101 % (101 - o4 % 101))]] = bx := ⟨_, rfl⟩
  have pbx : bx.length ≤ 1000 ∧ ∀ x ∈ bx, PureN 4 x := by
    rw [← hbx]
    refine ⟨by simp, fun x hx => ?_⟩
    rw [List.mem_singleton.mp hx]
    exact pure_tup (by simp) fun y hy => by
      simp only [List.mem_cons, List.not_mem_nil, or_false] at hy
      rcases hy with rfl | rfl | rfl
      · exact pure_str
      · exact pure_int
      · exact pure_int
  rw [hbx]
  have sb := Sub.put (o := .lst bx) nb
  have s1b := (sk.trans sr).trans sb
  refine w_arc5 f1 a1 f2 a2 f3 a3 hn hg (sD.trans s1b) (s1b _ _ gD) ((sr.trans sb) _ _ gk) (sb _ _ gr) put_same ⟨by simp, fun x hx => ?_⟩ ⟨by simp, fun x hx => ?_⟩ pbx fun G' t e ts evs z1 z2 => q G' k r b t e _ _ _ ts evs z1 z2
  · simp only [List.mem_cons, List.not_mem_nil, or_false] at hx
    rcases hx with rfl | rfl
    · exact pk0
    · exact pk1
  · simp only [List.mem_cons, List.not_mem_nil, or_false] at hx
    rcases hx with rfl | rfl
    · exact pr0
    · exact pr1
end Y

namespace Y
open PySem PySem.Spec PyProof.Rows L2
local macro_rules | `(tactic| walk_at "y1") => `(tactic| simp only [wpS, wpE, wpEs, wpO, wpC, wpI, binU, cmpU, intU, isB, partU, gU, gsU, startU, DF, List.map_cons, List.map_nil, List.length_cons, List.length_nil, List.cons_append, List.nil_append, List.replicate, List.getElem?_cons_zero, List.getElem?_cons_succ, List.set_cons_zero, List.set_cons_succ, true_and, and_true, if_true, Bool.false_eq_true, if_false, Nat.reduceAdd, Nat.reduceSub, w_nil])
/-! ### the state at an hour, by all events -/
structure ST where
  room : Str
  box : Str
  away : Option (Int × Int)
  mended : Option Int
def awU : Option (Int × Int) → U
  | none => .non
  | some (w, v) => plA w v
def stepS (n : Str) (h : Int) (s : ST) (e : Ev) : ST := if e.name = n ∧ e.at_ ≤ h then (match e.deed with
    | .move r => { s with room := r }
    | .box b => { s with box := b }
    | .lend m w v => if h < e.at_ + m then { s with away := some (w, v) } else s
    | .mend k => if e.at_ = h then { s with mended := some k } else s) else s
def stateF (r b : Str) (evs : List Ev) (n : Str) (h : Int) : ST := evs.foldl (stepS n h) ⟨r, b, none, none⟩
def plS (s : ST) : U := match s.away with
  | none => plR s.room s.box
  | some (w, v) => plA w v
def rowsU (k r b t e : Addr) : U := .tup [.ref k, .ref r, .ref b, .ref t, .ref e]
def sp_state : SpU := fun us G Q _ => ∃ k r b t e ts evs n h kd rm bx pt, us = [rowsU k r b t e, .str n, .int h] ∧ G t = some (.lst ts) ∧ G e = some (.lst ((evs : List Ev).map Ev.u)) ∧ ts.length ≤ 1000 ∧ (∀ x ∈ ts, isTh x) ∧ fdN n ts = some (.tup [.str n, kd, .str rm, .str bx, pt]) ∧
  Q (.tup [plS (stateF rm bx evs n h), optU (stateF rm bx evs n h).mended]) G
def pickN (n : Str) (u : U) : Option U := if nmOf u = some n then some u else none
theorem fdN_filter {n : Str} : ∀ {ts : List U} {r : U}, fdN n ts = some r → ∃ rest, ts.filterMap (pickN n) = r :: rest
  | [], _, h => by cases h
  | x :: ts, r, h => by
    unfold fdN at h
    split at h
    · rename_i e
      cases h
      exact ⟨_, List.filterMap_cons_some (by unfold pickN; rw [if_pos e])⟩
    · rename_i e
      obtain ⟨rest, hr⟩ := fdN_filter h
      exact ⟨rest, by rw [List.filterMap_cons_none (by unfold pickN; rw [if_neg e])]; exact hr⟩
theorem eq_S {a b : Str} {G : Gp} {Q : UK} (q : Q (.bl (decide (a = b))) G) : eqU false (.str a) (.str b) G Q := by
  simp only [eqU, scU, eqSc, if_true, Bool.false_eq_true, if_false]
  exact q
theorem eq_I {a b : Int} {G : Gp} {Q : UK} (q : Q (.bl (decide (a = b))) G) : eqU false (.int a) (.int b) G Q := by
  simp only [eqU, scU, eqSc, if_true, Bool.false_eq_true, if_false]
  exact q
theorem w_state {Γ : Gm} {E : XS} {us : List U} {G : Gp} {Q : UK} {X : XU} (h : sp_state us G Q X) : wpSs Γ E ir__law_state (DF Q) (startU ce__law_state.N us) G := by
  obtain ⟨k, r, b, t, e, ts, evs, n, h, kd, rm, bx, pt, rfl, gt, ge, htl, hth, hfd, q⟩ := h
  unfold ce__law_state
  refine w_cons ?_
  walk_at "y1"
  refine ix_t (atI_nat (j := 3) rfl) (seq_l gt fun D nD => ?_)
  have ntD : t ≠ D := Ne.symm (ne_of gt nD)
  refine lc_run (pickN n) _ [] (fun l => by rw [put_ne ntD]; exact lsG_of gt) (fun x hx l K L hK => ?_) (by rw [List.length_nil, Nat.zero_add]; exact Nat.le_trans htl (by decide)) ?_
  · obtain ⟨nm, kd', r', b', k', rfl⟩ := hth x hx
    simp only [wipeU, List.set_cons_succ, List.set_cons_zero, List.getElem?_cons_succ, List.getElem?_cons_zero]
    refine ix_t (atI_nat (j := 0) rfl) (eq_S ?_)
    unfold pickN at hK
    by_cases en : nm = n
    · rw [if_pos (by show some nm = some n; rw [en])] at hK
      simp only [en, decide_true, if_true] at hK ⊢
      exact hK
    · rw [if_neg (by intro z; exact en (Option.some.inj z))] at hK
      simp only [en, decide_false, Bool.false_eq_true, if_false] at hK ⊢
      exact hK
  obtain ⟨rest, hrest⟩ := fdN_filter hfd
  rw [List.nil_append, hrest]
  refine ix_l put_same (atI_nat (j := 0) rfl) (w_sub (Sub.put nD) (w_cons ?_))
  walk_at "y1"
  refine ix_t (atI_nat (j := 2) rfl) (ix_t (atI_nat (j := 3) rfl) ⟨by decide, w_go (w_cons ?_)⟩)
  walk_at "y1"
  refine ix_t (atI_nat (j := 4) rfl) (seq_l ge ?_)
  refine loop_inv _ (fun i σ G' => ∃ s8 s9 s10 st, σ = [some (rowsU k r b t e), some (.str n), some (.int h), some (.tup [.str n, kd, .str rm, .str bx, pt]), some (.str st.room), some (.str st.box), some (awU st.away), some (optU st.mended), s8, s9, s10, none] ∧ G' = G ∧ st = (evs.take i).foldl (stepS n h) ⟨rm, bx, none, none⟩)
    ⟨none, none, none, _, rfl, rfl, rfl⟩ (fun i σ G' _ hP => by obtain ⟨_, _, _, _, _, rfl, _⟩ := hP; exact lsG_of ge) (fun i x σ G' hx hP nx hnx => ?_) (fun σ G' hP => ?_)
  · obtain ⟨s8, s9, s10, st, rfl, rfl, hst⟩ := hP
    rw [List.getElem?_map, Option.map_eq_some_iff] at hx
    obtain ⟨ev, hev, rfl⟩ := hx
    have htk : evs.take (i + 1) = evs.take i ++ [ev] := by rw [List.take_add_one, hev]; rfl
    have hnx2 : ∀ st' s8 s9 s10, st' = stepS n h st ev → nx [some (rowsU k r b t e), some (.str n), some (.int h), some (.tup [.str n, kd, .str rm, .str bx, pt]), some (.str st'.room), some (.str st'.box), some (awU st'.away), some (optU st'.mended), s8, s9, s10, none] G' := fun st' s8 s9 s10 e => hnx _ _ ⟨s8, s9, s10, st', rfl, rfl, by rw [e, htk, List.foldl_append, ← hst]; rfl⟩
    simp only [Ev.u, gU, gsU, List.set_cons_succ, List.set_cons_zero]
    refine w_cons ?_
    walk_at "y1"
    refine eq_S ?_
    by_cases hnm : ev.name = n
    · by_cases hat : ev.at_ ≤ h
      · simp only [hnm, hat, decide_true, if_true]
        have es : stepS n h st ev = (match ev.deed with
          | .move r => { st with room := r }
          | .box b => { st with box := b }
          | .lend m w v => if h < ev.at_ + m then { st with away := some (w, v) } else st
          | .mend k => if ev.at_ = h then { st with mended := some k } else st) := if_pos ⟨hnm, hat⟩
        cases hd : ev.deed with
        | move z =>
          rw [hd] at es
          refine w_cons ?_
          walk_at "y1"
          refine ix_t (atI_nat (j := 0) rfl) (eq_S ?_)
          simp only [decide_true, if_true]
          refine w_cons ?_
          walk_at "y1"
          refine ix_t (atI_nat (j := 1) rfl) (w_go (w_go (w_cons ?_)))
          walk_at "y1"
          refine ix_t (atI_nat (j := 0) rfl) (eq_S ?_)
          rw [decide_eq_false (by decide +kernel)]
          simp only [Bool.false_eq_true, if_false]
          refine w_go (w_cons ?_)
          walk_at "y1"
          refine ix_t (atI_nat (j := 0) rfl) (eq_S ?_)
          rw [decide_eq_false (by decide +kernel)]
          simp only [Bool.false_eq_true, if_false]
          refine w_go (w_cons ?_)
          walk_at "y1"
          refine ix_t (atI_nat (j := 0) rfl) (eq_S ?_)
          rw [decide_eq_false (by decide +kernel)]
          simp only [Bool.false_eq_true, if_false]
          exact w_go (w_go (hnx2 _ _ _ _ es.symm))
        | box z =>
          rw [hd] at es
          refine w_cons ?_
          walk_at "y1"
          refine ix_t (atI_nat (j := 0) rfl) (eq_S ?_)
          rw [decide_eq_false (by decide +kernel)]
          simp only [Bool.false_eq_true, if_false]
          refine w_go (w_cons ?_)
          walk_at "y1"
          refine ix_t (atI_nat (j := 0) rfl) (eq_S ?_)
          simp only [decide_true, if_true]
          refine w_cons ?_
          walk_at "y1"
          refine ix_t (atI_nat (j := 1) rfl) (w_go (w_go (w_cons ?_)))
          walk_at "y1"
          refine ix_t (atI_nat (j := 0) rfl) (eq_S ?_)
          rw [decide_eq_false (by decide +kernel)]
          simp only [Bool.false_eq_true, if_false]
          refine w_go (w_cons ?_)
          walk_at "y1"
          refine ix_t (atI_nat (j := 0) rfl) (eq_S ?_)
          rw [decide_eq_false (by decide +kernel)]
          simp only [Bool.false_eq_true, if_false]
          exact w_go (w_go (hnx2 _ _ _ _ es.symm))
        | mend z =>
          rw [hd] at es
          refine w_cons ?_
          walk_at "y1"
          refine ix_t (atI_nat (j := 0) rfl) (eq_S ?_)
          rw [decide_eq_false (by decide +kernel)]
          simp only [Bool.false_eq_true, if_false]
          refine w_go (w_cons ?_)
          walk_at "y1"
          refine ix_t (atI_nat (j := 0) rfl) (eq_S ?_)
          rw [decide_eq_false (by decide +kernel)]
          simp only [Bool.false_eq_true, if_false]
          refine w_go (w_cons ?_)
          walk_at "y1"
          refine ix_t (atI_nat (j := 0) rfl) (eq_S ?_)
          rw [decide_eq_false (by decide +kernel)]
          simp only [Bool.false_eq_true, if_false]
          refine w_go (w_cons ?_)
          walk_at "y1"
          refine ix_t (atI_nat (j := 0) rfl) (eq_S ?_)
          simp only [decide_true, if_true]
          refine eq_I ?_
          by_cases eh : ev.at_ = h
          · simp only [eh, decide_true, if_true] at es ⊢
            refine w_cons ?_
            walk_at "y1"
            exact ix_t (atI_nat (j := 1) rfl) (w_go (w_go (w_go (hnx2 _ _ _ _ es.symm))))
          · simp only [eh, decide_false, if_false, Bool.false_eq_true] at es ⊢
            exact w_go (w_go (hnx2 _ _ _ _ es.symm))
        | lend m w v =>
          rw [hd] at es
          refine w_cons ?_
          walk_at "y1"
          refine ix_t (atI_nat (j := 0) rfl) (eq_S ?_)
          rw [decide_eq_false (by decide +kernel)]
          simp only [Bool.false_eq_true, if_false]
          refine w_go (w_cons ?_)
          walk_at "y1"
          refine ix_t (atI_nat (j := 0) rfl) (eq_S ?_)
          rw [decide_eq_false (by decide +kernel)]
          simp only [Bool.false_eq_true, if_false]
          refine w_go (w_cons ?_)
          walk_at "y1"
          refine ix_t (atI_nat (j := 0) rfl) (eq_S ?_)
          simp only [decide_true, if_true]
          refine ix_t (atI_nat (j := 1) rfl) ?_
          simp only [addU]
          have tail : ∀ st', st' = stepS n h st ev → wpSs Γ E ir__law_state_8 { nx := fun σ' G' => ∃ G2, Sub G2 G' ∧ nx σ' G2, rt := fun u G' => ∃ G2, Sub G2 G' ∧ Q u G2, bk := fun _ _ => False, ct := nx } [some (rowsU k r b t e), some (.str n), some (.int h), some (.tup [.str n, kd, .str rm, .str bx, pt]), some (.str st'.room), some (.str st'.box), some (awU st'.away), some (optU st'.mended), some (.int ev.at_), some (.str ev.name), some (Deed.u (.lend m w v)), none] G' → True := fun _ _ _ => trivial
          by_cases eh : h < ev.at_ + m
          · simp only [eh, decide_true, if_true] at es ⊢
            refine w_cons ?_
            walk_at "y1"
            refine ix_t (atI_nat (j := 2) rfl) (ix_t (atI_nat (j := 3) rfl) ⟨by decide, w_go (w_go (w_cons ?_))⟩)
            walk_at "y1"
            refine ix_t (atI_nat (j := 0) rfl) (eq_S ?_)
            rw [decide_eq_false (by decide +kernel)]
            simp only [Bool.false_eq_true, if_false]
            exact w_go (w_go (hnx2 _ _ _ _ es.symm))
          · simp only [eh, decide_false, if_false, Bool.false_eq_true] at es ⊢
            refine w_go (w_cons ?_)
            walk_at "y1"
            refine ix_t (atI_nat (j := 0) rfl) (eq_S ?_)
            rw [decide_eq_false (by decide +kernel)]
            simp only [Bool.false_eq_true, if_false]
            exact w_go (w_go (hnx2 _ _ _ _ es.symm))
      · simp only [hnm, hat, decide_true, decide_false, if_true, Bool.false_eq_true, if_false]
        exact w_go (hnx2 _ _ _ _ (by unfold stepS; rw [if_neg fun z => hat z.2]))
    · simp only [hnm, decide_false, Bool.false_eq_true, if_false]
      exact w_go (hnx2 _ _ _ _ (by unfold stepS; rw [if_neg fun z => hnm z.1]))
  · obtain ⟨s8, s9, s10, st, rfl, rfl, hst⟩ := hP
    rw [List.length_map, List.take_length] at hst
    have hst2 : st = stateF rm bx evs n h := hst
    refine w_go (w_cons ?_)
    walk_at "y1"
    rw [← hst2] at q
    unfold plS at q
    cases ha : st.away with
    | none =>
      rw [ha] at q
      simp only [awU, isU, Bool.not_false, if_true]
      exact ⟨by decide, by decide, w_go q⟩
    | some p =>
      obtain ⟨w, v⟩ := p
      rw [ha] at q
      simp only [awU, plA, isU, Bool.false_eq_true, if_false]
      exact ⟨by decide, w_go q⟩
end Y

namespace Y
open PySem PySem.Spec PyProof.Rows L2
local macro_rules | `(tactic| walk_at "y1") => `(tactic| simp only [wpS, wpE, wpEs, wpO, wpC, wpI, binU, cmpU, intU, isB, partU, gU, gsU, startU, DF, List.map_cons, List.map_nil, List.length_cons, List.length_nil, List.cons_append, List.nil_append, List.replicate, List.getElem?_cons_zero, List.getElem?_cons_succ, List.set_cons_zero, List.set_cons_succ, true_and, and_true, if_true, Bool.false_eq_true, if_false, Nat.reduceAdd, Nat.reduceSub, w_nil])
/-! ### where the time of a thing is cut -/
def isCutE (n : Str) (e : Ev) (x : Int) : Prop := e.name = n ∧ (x = e.at_ ∨ ∃ m w v, e.deed = .lend m w v ∧ x = e.at_ + m)
def IsCut (evs : List Ev) (n : Str) (x : Int) : Prop := x = 0 ∨ ∃ e ∈ evs, isCutE n e x
def insI (ks : List Int) (i : Int) : List Int := if i ∈ ks then ks else ks ++ [i]
theorem any_ints (i : Int) : ∀ (kvs : List (U × U)) (ks : List Int), kvs.map (·.1) = ks.map U.int → (kvs.any fun kv => eqKy kv.1 (.int i)) = decide (i ∈ ks)
  | [], [], _ => by simp
  | [], _ :: _, h => by cases h
  | _ :: _, [], h => by cases h
  | (u, x) :: kvs, k :: ks, h => by
    rw [List.map_cons, List.map_cons] at h
    have h1 : u = .int k := (List.cons.inj h).1
    rw [List.any_cons, any_ints i kvs ks (List.cons.inj h).2]
    subst h1
    show (decide (k = i) || _) = _
    by_cases e : k = i
    · simp [e]
    · have e' : ¬ i = k := fun z => e z.symm
      simp [e, e']
theorem put_ints {kvs : List (U × U)} {ks : List Int} (h : kvs.map (·.1) = ks.map U.int) (i : Int) (v : U) : (putKU kvs (.int i) v).map (·.1) = (insI ks i).map U.int := by
  unfold putKU insI
  rw [any_ints i kvs ks h]
  by_cases e : i ∈ ks
  · rw [if_pos (decide_eq_true e), if_pos e, ← h, List.map_map]
    refine List.map_congr_left fun x hx => ?_
    show (if eqKy x.1 (.int i) = true then (x.1, v) else x).1 = x.1
    split <;> rfl
  · rw [if_neg (by simpa using e), if_neg e, List.map_append, h, List.map_append]
    rfl
theorem insI_nodup {ks : List Int} {i : Int} (h : ks.Nodup) : (insI ks i).Nodup := by
  unfold insI
  split
  · exact h
  · rename_i e
    exact List.nodup_append.mpr ⟨h, (by simp), fun a ha b hb => by rw [List.mem_singleton.mp hb]; intro z; subst z; exact e ha⟩
theorem insI_mem {ks : List Int} {i x : Int} : x ∈ insI ks i ↔ x ∈ ks ∨ x = i := by
  unfold insI
  split
  · rename_i e
    exact ⟨.inl, fun h => by rcases h with h | h; exact h; rw [h]; exact e⟩
  · rw [List.mem_append, List.mem_singleton]
theorem insI_len {ks : List Int} {i : Int} : (insI ks i).length ≤ ks.length + 1 := by
  unfold insI
  split
  · omega
  · rw [List.length_append, List.length_singleton]; omega
def sp_cuts : SpU := fun us G Q _ => ∃ k r b t e evs n, us = [rowsU k r b t e, .str n] ∧ G e = some (.lst ((evs : List Ev).map Ev.u)) ∧ evs.length ≤ 100 ∧ ∀ G' p cs, Sub G G' → G p = none → G' p = some (.lst ((cs : List Int).map U.int)) → cs.Pairwise (· < ·) → (∀ x, x ∈ cs ↔ IsCut evs n x) → cs.length ≤ 201 → Q (.ref p) G'
theorem pw_lt {l : List Int} (h : l.Pairwise (· ≤ ·)) (nd : l.Nodup) : l.Pairwise (· < ·) := by
  have := h.and nd
  exact this.imp fun {a b} ⟨h1, h2⟩ => by
    rcases Int.lt_or_eq_of_le h1 with h | h
    · exact h
    · exact absurd h h2
theorem w_cuts {Γ : Gm} {E : XS} {us : List U} {G : Gp} {Q : UK} {X : XU} (h : sp_cuts us G Q X) : wpSs Γ E ir__law_cuts (DF Q) (startU ce__law_cuts.N us) G := by
  obtain ⟨k, r, b, t, e, evs, n, rfl, ge, hl, q⟩ := h
  unfold ce__law_cuts
  refine w_cons ?_
  walk_at "y1"
  intro d nd
  refine ⟨put_same, ?_⟩
  simp only [altU, keyU, List.length_cons, List.length_nil]
  refine ⟨by decide, w_go (w_cons ?_)⟩
  rw [put_put]
  have ned : e ≠ d := Ne.symm (ne_of ge nd)
  walk_at "y1"
  refine ix_t (atI_nat (j := 4) rfl) (seq_l (put_at ge nd) ?_)
  refine loop_inv _ (fun i σ G' => ∃ s3 s4 s5 kvs ks, σ = [some (rowsU k r b t e), some (.str n), some (.ref d), s3, s4, s5] ∧ G' = put G d (.dic kvs) ∧ kvs.map (·.1) = (ks : List Int).map U.int ∧ ks.Nodup ∧ (∀ x, x ∈ ks ↔ IsCut (evs.take i) n x) ∧ ks.length ≤ 1 + 2 * i)
    ⟨none, none, none, _, [0], rfl, rfl, rfl, (by simp), ?_, by simp⟩ (fun i σ G' _ hP => ?_) (fun i x σ G' hx hP nx hnx => ?_) (fun σ G' hP => ?_)
  · intro x
    rw [List.mem_singleton]
    exact ⟨.inl, fun h => by
      rcases h with h | ⟨_, h, _⟩
      · exact h
      · cases h⟩
  · obtain ⟨_, _, _, _, _, _, rfl, _⟩ := hP
    exact lsG_of (put_at ge nd)
  · obtain ⟨s3, s4, s5, kvs, ks, rfl, rfl, hk, hnd, hmem, hkl⟩ := hP
    have hi : i < evs.length := by
      by_cases hi : i < evs.length
      · exact hi
      · rw [List.getElem?_eq_none (by rw [List.length_map]; omega)] at hx; cases hx
    rw [List.getElem?_map, Option.map_eq_some_iff] at hx
    obtain ⟨ev, hev, rfl⟩ := hx
    have htk : evs.take (i + 1) = evs.take i ++ [ev] := by rw [List.take_add_one, hev]; rfl
    have cut1 : ∀ x, IsCut (evs.take (i + 1)) n x ↔ IsCut (evs.take i) n x ∨ isCutE n ev x := fun x => by
      rw [htk]
      unfold IsCut
      simp only [List.mem_append, List.mem_singleton]
      constructor
      · rintro (h | ⟨e, (h | rfl), h2⟩)
        · exact .inl (.inl h)
        · exact .inl (.inr ⟨e, h, h2⟩)
        · exact .inr h2
      · rintro ((h | ⟨e, h, h2⟩) | h)
        · exact .inl h
        · exact .inr ⟨e, .inl h, h2⟩
        · exact .inr ⟨ev, .inr rfl, h⟩
    simp only [Ev.u, gU, gsU, List.set_cons_succ, List.set_cons_zero]
    have kl : kvs.length = ks.length := by have := congrArg List.length hk; rwa [List.length_map, List.length_map] at this
    refine w_cons ?_
    walk_at "y1"
    refine eq_S ?_
    by_cases hnm : ev.name = n
    · simp only [hnm, decide_true, if_true]
      refine w_cons ?_
      walk_at "y1"
      refine set_d put_same rfl (Nat.lt_of_le_of_lt (show kvs.length ≤ 300 by omega) (by decide)) (w_go (w_cons ?_))
      rw [put_put]
      have hk1 := put_ints hk ev.at_ (.bl true)
      obtain ⟨kvs1, hkvs1⟩ : ∃ x, putKU kvs (.int ev.at_) (.bl true) = x := ⟨_, rfl⟩
      rw [hkvs1] at hk1 ⊢
      have l1 := insI_len (ks := ks) (i := ev.at_)
      have kl1 : kvs1.length = (insI ks ev.at_).length := by have := congrArg List.length hk1; rwa [List.length_map, List.length_map] at this
      have done : ∀ (nl : ∀ m w v, ev.deed ≠ .lend m w v), Prop := fun _ => True
      cases hd : ev.deed with
      | lend m w v =>
        walk_at "y1"
        refine ix_t (atI_nat (j := 0) rfl) (eq_S ?_)
        simp only [decide_true, if_true]
        refine w_cons ?_
        walk_at "y1"
        refine ix_t (atI_nat (j := 1) rfl) ?_
        simp only [addU]
        refine set_d put_same rfl (Nat.lt_of_le_of_lt (show kvs1.length ≤ 300 by omega) (by decide)) (w_go (w_go (w_go ?_)))
        rw [put_put]
        have l2 := insI_len (ks := insI ks ev.at_) (i := ev.at_ + m)
        refine hnx _ _ ⟨_, _, _, _, insI (insI ks ev.at_) (ev.at_ + m), rfl, rfl, put_ints hk1 _ _, insI_nodup (insI_nodup hnd), fun x => ?_, by omega⟩
        rw [insI_mem, insI_mem, hmem, cut1]
        unfold isCutE
        constructor
        · rintro ((h | h) | h)
          · exact .inl h
          · exact .inr ⟨hnm, .inl h⟩
          · exact .inr ⟨hnm, .inr ⟨m, w, v, hd, h⟩⟩
        · rintro (h | ⟨_, h | ⟨m', w', v', h1, h2⟩⟩)
          · exact .inl (.inl h)
          · exact .inl (.inr h)
          · rw [hd] at h1
            cases h1
            exact .inr h2
      | move z =>
        walk_at "y1"
        refine ix_t (atI_nat (j := 0) rfl) (eq_S ?_)
        rw [decide_eq_false (by decide +kernel)]
        simp only [Bool.false_eq_true, if_false]
        refine w_go (w_go (hnx _ _ ⟨_, _, _, _, insI ks ev.at_, rfl, rfl, hk1, insI_nodup hnd, fun x => ?_, by omega⟩))
        rw [insI_mem, hmem, cut1]
        unfold isCutE
        constructor
        · rintro (h | h)
          · exact .inl h
          · exact .inr ⟨hnm, .inl h⟩
        · rintro (h | ⟨_, h | ⟨m', w', v', h1, h2⟩⟩)
          · exact .inl h
          · exact .inr h
          · rw [hd] at h1; cases h1
      | box z =>
        walk_at "y1"
        refine ix_t (atI_nat (j := 0) rfl) (eq_S ?_)
        rw [decide_eq_false (by decide +kernel)]
        simp only [Bool.false_eq_true, if_false]
        refine w_go (w_go (hnx _ _ ⟨_, _, _, _, insI ks ev.at_, rfl, rfl, hk1, insI_nodup hnd, fun x => ?_, by omega⟩))
        rw [insI_mem, hmem, cut1]
        unfold isCutE
        constructor
        · rintro (h | h)
          · exact .inl h
          · exact .inr ⟨hnm, .inl h⟩
        · rintro (h | ⟨_, h | ⟨m', w', v', h1, h2⟩⟩)
          · exact .inl h
          · exact .inr h
          · rw [hd] at h1; cases h1
      | mend z =>
        walk_at "y1"
        refine ix_t (atI_nat (j := 0) rfl) (eq_S ?_)
        rw [decide_eq_false (by decide +kernel)]
        simp only [Bool.false_eq_true, if_false]
        refine w_go (w_go (hnx _ _ ⟨_, _, _, _, insI ks ev.at_, rfl, rfl, hk1, insI_nodup hnd, fun x => ?_, by omega⟩))
        rw [insI_mem, hmem, cut1]
        unfold isCutE
        constructor
        · rintro (h | h)
          · exact .inl h
          · exact .inr ⟨hnm, .inl h⟩
        · rintro (h | ⟨_, h | ⟨m', w', v', h1, h2⟩⟩)
          · exact .inl h
          · exact .inr h
          · rw [hd] at h1; cases h1
    · simp only [hnm, decide_false, Bool.false_eq_true, if_false]
      refine w_go (hnx _ _ ⟨_, _, _, kvs, ks, rfl, rfl, hk, hnd, fun x => ?_, by omega⟩)
      rw [hmem, cut1]
      exact ⟨.inl, fun h => by
        rcases h with h | h
        · exact h
        · exact absurd h.1 hnm⟩
  · obtain ⟨s3, s4, s5, kvs, ks, rfl, rfl, hk, hnd, hmem, hkl⟩ := hP
    rw [List.length_map] at hkl
    rw [List.length_map, List.take_length] at hmem
    refine w_go (w_cons ?_)
    walk_at "y1"
    refine bi_listD put_same fun p np => ?_
    rw [hk]
    refine bi_sorted put_same fun ns' p2 h1 h2 n2 => w_go (q _ p2 ns' ?_ ?_ put_same (pw_lt h2 (h1.nodup_iff.mpr hnd)) (fun x => ?_) (by rw [h1.length_eq]; omega))
    · exact ((Sub.put nd).trans (Sub.put np)).trans (Sub.put n2)
    · exact ((Sub.put nd).trans (Sub.put np)).none n2
    · rw [h1.mem_iff, hmem]
end Y

namespace Y
open PySem PySem.Spec PyProof.Rows L2
local macro_rules | `(tactic| walk_at "y1") => `(tactic| simp only [wpS, wpE, wpEs, wpO, wpC, wpI, binU, cmpU, intU, isB, partU, gU, gsU, startU, DF, List.map_cons, List.map_nil, List.length_cons, List.length_nil, List.cons_append, List.nil_append, List.replicate, List.getElem?_cons_zero, List.getElem?_cons_succ, List.set_cons_zero, List.set_cons_succ, true_and, and_true, if_true, Bool.false_eq_true, if_false, Nat.reduceAdd, Nat.reduceSub, w_nil])
/-! ### what is due -/
def stU (r b : Str) (evs : List Ev) (n : Str) (x y : Int) : U := strU x y (plS (stateF r b evs n x)) (stateF r b evs n x).mended
def dueF (r b : Str) (evs : List Ev) (n : Str) : List Int → List U
  | x :: y :: l => stU r b evs n x y :: dueF r b evs n (y :: l)
  | _ => []
def dueC (cs : List Int) (h : Int) : List Int := cs.filter (fun x => decide (x < h)) ++ [h]
def sp_due : SpU := fun us G Q _ => ∃ k r b t e ts evs n h kd rm bx pt, us = [rowsU k r b t e, .str n, .int h] ∧ G t = some (.lst ts) ∧ G e = some (.lst ((evs : List Ev).map Ev.u)) ∧ evs.length ≤ 100 ∧ ts.length ≤ 1000 ∧ (∀ x ∈ ts, isTh x) ∧ fdN n ts = some (.tup [.str n, kd, .str rm, .str bx, pt]) ∧
  ∀ G' p cs, Sub G G' → G p = none → cs.Pairwise (· < ·) → (∀ x, x ∈ cs ↔ IsCut evs n x) → cs.length ≤ 201 → G' p = some (.lst (dueF rm bx evs n (dueC cs h))) → Q (.ref p) G'
theorem zip_due {r b : Str} {evs : List Ev} {n : Str} : ∀ (l : List Int), (zpU (l.map U.int) ((l.drop 1).map U.int)).length = l.length - 1 ∧ ∀ (i : Nat) (z : U), (zpU (l.map U.int) ((l.drop 1).map U.int))[i]? = some z → ∃ x y, z = U.tup [U.int x, U.int y] ∧ (dueF r b evs n l)[i]? = some (stU r b evs n x y)
  | [] => ⟨rfl, fun i z h => by simp [zpU] at h⟩
  | [x] => ⟨rfl, fun i z h => by simp [zpU] at h⟩
  | x :: y :: l => by
    obtain ⟨h1, h2⟩ := zip_due (r := r) (b := b) (evs := evs) (n := n) (y :: l)
    have e : zpU ((x :: y :: l).map U.int) (((x :: y :: l).drop 1).map U.int) = .tup [.int x, .int y] :: zpU ((y :: l).map U.int) (((y :: l).drop 1).map U.int) := rfl
    rw [e]
    refine ⟨by simp only [List.length_cons] at h1 ⊢; omega, fun i z hz => ?_⟩
    cases i with
    | zero =>
      rw [List.getElem?_cons_zero] at hz
      cases hz
      exact ⟨x, y, rfl, rfl⟩
    | succ i =>
      rw [List.getElem?_cons_succ] at hz
      obtain ⟨x', y', e1, e2⟩ := h2 i z hz
      exact ⟨x', y', e1, by rw [dueF, List.getElem?_cons_succ]; exact e2⟩
theorem dueF_len {r b : Str} {evs : List Ev} {n : Str} : ∀ (l : List Int), (dueF r b evs n l).length = l.length - 1
  | [] => rfl
  | [x] => rfl
  | x :: y :: l => by
    rw [dueF, List.length_cons, dueF_len (y :: l)]
    simp only [List.length_cons]
    omega
theorem w_due {Γ : Gm} {E : XS} {us : List U} {G : Gp} {Q : UK} {X : XU} (f1 : Γ.fn f__law_cuts = sp_cuts) (a1 : Γ.ar f__law_cuts = 2) (f2 : Γ.fn f__law_state = sp_state) (a2 : Γ.ar f__law_state = 3) (h : sp_due us G Q X) : wpSs Γ E ir__law_due (DF Q) (startU ce__law_due.N us) G := by
  obtain ⟨k, r, b, t, e, ts, evs, n, h, kd, rm, bx, pt, rfl, gt, ge, hel, htl, hth, hfd, q⟩ := h
  unfold ce__law_due
  refine w_cons ?_
  walk_at "y1"
  rw [f1, a1]
  refine ⟨rfl, k, r, b, t, e, evs, n, rfl, ge, hel, fun G1 p cs s1 np gp hpw hmem hcl => seq_l gp fun D nD => ?_⟩
  have npD : p ≠ D := Ne.symm (ne_of gp nD)
  refine lc_run (fun u => match u with | .int x => if x < h then some (.int x) else none | _ => none) _ [] (fun l => by rw [put_ne npD]; exact lsG_of gp) (fun x hx l K L hK => ?_) (by rw [List.length_nil, Nat.zero_add, List.length_map]; exact Nat.le_trans hcl (by decide)) ?_
  · obtain ⟨c, hc, rfl⟩ := List.mem_map.mp hx
    simp only [wipeU, List.set_cons_succ, List.set_cons_zero, List.getElem?_cons_succ, List.getElem?_cons_zero]
    by_cases hch : c < h
    · simp only [hch, if_true, decide_true] at hK ⊢
      exact hK
    · simp only [hch, if_false, decide_false, Bool.false_eq_true] at hK ⊢
      exact hK
  have efm : ∀ l : List Int, (l.map U.int).filterMap (fun u => match u with | .int x => if x < h then some (U.int x) else none | _ => none) = (l.filter fun x => decide (x < h)).map U.int := by
    intro l
    induction l with
    | nil => rfl
    | cons c l ih =>
      rw [List.map_cons]
      by_cases hch : c < h
      · rw [List.filterMap_cons_some (b := U.int c) (by simp only [hch, if_true]), ih, List.filter_cons_of_pos (by simpa using hch), List.map_cons]
      · rw [List.filterMap_cons_none (by simp only [hch, if_false]), ih, List.filter_cons_of_neg (by simpa using hch)]
  rw [List.nil_append, efm]
  refine ⟨by decide, fun p2 n2 => ?_⟩
  have fl : (cs.filter fun x => decide (x < h)).length ≤ 201 := Nat.le_trans (List.length_filter_le _ _) hcl
  refine add_l (put_at put_same n2) put_same (by rw [List.length_map]; exact Nat.le_trans (Nat.add_le_add_right fl 1) (by decide)) fun C nC => ?_
  have e1 : (cs.filter fun x => decide (x < h)).map U.int ++ [.int h] = (dueC cs h).map U.int := by unfold dueC; rw [List.map_append]; rfl
  rw [e1]
  have sC : Sub G (put (put (put G1 D (.lst ((cs.filter fun x => decide (x < h)).map U.int))) p2 (.lst [.int h])) C (.lst ((dueC cs h).map U.int))) := ((s1.trans (Sub.put nD)).trans (Sub.put n2)).trans (Sub.put nC)
  obtain ⟨G2, hG2⟩ : ∃ G2, put (put (put G1 D (.lst ((cs.filter fun x => decide (x < h)).map U.int))) p2 (.lst [.int h])) C (.lst ((dueC cs h).map U.int)) = G2 := ⟨_, rfl⟩
  have gC : G2 C = some (.lst ((dueC cs h).map U.int)) := by rw [← hG2]; exact put_same
  rw [hG2] at sC ⊢
  have cl2 : (dueC cs h).length ≤ 202 := by unfold dueC; rw [List.length_append, List.length_singleton]; omega
  obtain ⟨dc, hdc⟩ : ∃ dc, dueC cs h = dc := ⟨_, rfl⟩
  rw [hdc] at gC cl2
  have q2 : ∀ G' p, Sub G G' → G p = none → G' p = some (.lst (dueF rm bx evs n dc)) → Q (.ref p) G' := fun G' p z1 z2 z3 => q G' p cs z1 z2 hpw hmem hcl (by rw [hdc]; exact z3)
  refine w_go (w_cons ?_)
  walk_at "y1"
  refine ⟨by decide, fun F nF => w_go (w_cons ?_)⟩
  have sF := Sub.put (o := .lst []) nF
  have nFG : G F = none := sC.none nF
  walk_at "y1"
  refine slc_l (sF _ _ gC) fun R nR => ?_
  have ecut : cutU (dc.map U.int) (some 1) none = (dc.drop 1).map U.int := by
    unfold cutU
    rw [show HT.sIx (dc.map U.int).length 0 (some 1) = min 1 (dc.map U.int).length from HT.sIx_nat _ 0 1, HT.sIx_none, List.map_drop]
    cases dc with
    | nil => rfl
    | cons x l =>
      rw [show min 1 ((x :: l).map U.int).length = 1 by rw [List.length_map, List.length_cons]; omega]
      rw [List.take_of_length_le (by rw [List.length_drop]; exact Nat.le_refl _)]
  rw [ecut]
  refine zp_l ((sF.trans (Sub.put nR)) _ _ gC) put_same ?_
  have nCF : C ≠ F := Ne.symm (ne_of gC nF)
  have nRF : R ≠ F := fun z => by subst z; rw [put_same] at nR; cases nR
  refine loop_inv _ (fun i σ G' => ∃ s5 s6 s7 s8, σ = [some (rowsU k r b t e), some (.str n), some (.int h), some (.ref C), some (.ref F), s5, s6, s7, s8, none] ∧ Sub G G' ∧ G' C = some (.lst (dc.map U.int)) ∧ G' R = some (.lst ((dc.drop 1).map U.int)) ∧ G' F = some (.lst ((dueF rm bx evs n dc).take i)))
    ⟨none, none, none, none, rfl, sC.trans (sF.trans (Sub.put nR)), (sF.trans (Sub.put nR)) _ _ gC, put_same, Sub.put nR _ _ put_same⟩ (fun i σ G' _ hP => ?_) (fun i x σ G' hx hP nx hnx => ?_) (fun σ G' hP => ?_)
  · obtain ⟨_, _, _, _, _, _, e1, e2, _⟩ := hP
    exact ⟨lsG_of e1, lsG_of e2⟩
  · obtain ⟨s5, s6, s7, s8, rfl, sG, g1, g2, g3⟩ := hP
    obtain ⟨x1, x2, rfl, hdue⟩ := (zip_due (r := rm) (b := bx) (evs := evs) (n := n) dc).2 i x hx
    simp only [gU, gsU, List.set_cons_succ, List.set_cons_zero]
    refine w_cons ?_
    walk_at "y1"
    rw [f2, a2]
    refine ⟨rfl, k, r, b, t, e, ts, evs, n, x1, kd, rm, bx, pt, rfl, sG _ _ gt, sG _ _ ge, htl, hth, hfd, w_go (w_cons ?_)⟩
    walk_at "y1"
    refine ⟨tm_app g3, by decide, bm_app g3 ?_ (w_go (hnx _ _ ⟨_, _, _, _, rfl, ?_, ?_, ?_, ?_⟩))⟩
    · refine Nat.lt_of_le_of_lt (show _ ≤ 202 from ?_) (by decide)
      rw [List.length_take, dueF_len]
      omega
    · intro y o hy
      rw [put_ne]
      · exact sG y o hy
      · intro z; subst z; rw [nFG] at hy; cases hy
    · rw [put_ne nCF]; exact g1
    · rw [put_ne nRF]; exact g2
    · rw [put_same, List.take_add_one, hdue]
      rfl
  · obtain ⟨s5, s6, s7, s8, rfl, sG, g1, g2, g3⟩ := hP
    rw [(zip_due (r := rm) (b := bx) (evs := evs) (n := n) dc).1, List.take_of_length_le (by rw [dueF_len]; exact Nat.le_refl _)] at g3
    refine w_go (w_cons ?_)
    walk_at "y1"
    exact w_go (q2 G' F sG nFG g3)
end Y

namespace Y
open PySem PySem.Spec PyProof.Rows L2
/-! ### the path is what is due: the plain law -/
section
variable {r b : Str} {evs pre suf : List Ev} {n : Str} {h : Int}
theorem dueF_snoc {f a : Int} : ∀ {cl : List Int}, cl.getLast? = some f → dueF r b evs n (cl ++ [a]) = dueF r b evs n cl ++ [stU r b evs n f a]
  | [], h => by cases h
  | [x], h => by cases h; rfl
  | x :: y :: l, h => by
    rw [List.getLast?_cons_cons] at h
    have ih := dueF_snoc (a := a) (cl := y :: l) h
    rw [List.cons_append, List.cons_append, dueF, dueF]
    rw [List.cons_append] at ih
    rw [ih]
    rfl
/-- later events do not matter -/
theorem state_pre {x : Int} (hs : ∀ e ∈ suf, e.name = n → x < e.at_) : stateF r b (pre ++ suf) n x = stateF r b pre n x := by
  unfold stateF
  rw [List.foldl_append]
  generalize pre.foldl (stepS n x) ⟨r, b, none, none⟩ = s
  induction suf generalizing s with
  | nil => rfl
  | cons e suf ih =>
    rw [List.foldl_cons, show stepS n x s e = s from if_neg fun z => absurd (hs e List.mem_cons_self z.1) (by omega)]
    exact ih (fun e' he' => hs e' (List.mem_cons_of_mem _ he')) s
theorem state_snoc {x : Int} {e : Ev} : stateF r b (pre ++ [e]) n x = stepS n x (stateF r b pre n x) e := by
  unfold stateF
  rw [List.foldl_append]
  rfl
/-- what holds behind a part of the events -/
structure Jn (r b : Str) (evs pre suf : List Ev) (n : Str) (h : Int) (p : PS) : Prop where
  sp : evs = pre ++ suf
  f0 : 0 ≤ p.first
  fh : p.first < h
  fs : ∀ e ∈ suf, e.name = n → p.first ≤ e.at_ ∧ ∀ u, p.til = some u → u ≤ e.at_
  cl : ∃ cl : List Int, cl.Pairwise (· < ·) ∧ (∀ x, x ∈ cl ↔ x ≤ p.first ∧ IsCut evs n x) ∧ cl.getLast? = some p.first ∧ p.found = dueF r b evs n cl
  pl : (p.til = none ∧ p.place = plR p.room p.box ∧ ∀ x, p.first ≤ x → x < h → stateF r b pre n x = ⟨p.room, p.box, none, if x = p.first then p.mended else none⟩) ∨
    ∃ u w v, p.til = some u ∧ p.first < u ∧ IsCut evs n u ∧ p.place = plA w v ∧ ∀ x, p.first ≤ x → x < h → stateF r b pre n x = ⟨p.room, p.box, if x < u then some (w, v) else none, if x = p.first then p.mended else none⟩
  cu : ∀ x, IsCut pre n x → p.first < x → x < h → p.til = some x
/-- a row of cuts, one more -/
theorem row_snoc {cl : List Int} {f a : Int} (pw : cl.Pairwise (· < ·)) (hm : ∀ x, x ∈ cl ↔ x ≤ f ∧ IsCut evs n x) (hfa : f < a) (hno : ∀ x, IsCut evs n x → f < x → x < a → False) : (cl ++ [a]).Pairwise (· < ·) ∧ (∀ x, x ∈ cl ++ [a] ↔ (x < a ∧ IsCut evs n x) ∨ x = a) ∧ (cl ++ [a]).getLast? = some a := by
  refine ⟨List.pairwise_append.mpr ⟨pw, List.pairwise_singleton _ _, fun x hx y hy => ?_⟩, fun x => ?_, by simp⟩
  · rw [List.mem_singleton.mp hy]
    have := (hm x).mp hx
    omega
  · rw [List.mem_append, List.mem_singleton, hm]
    constructor
    · rintro (⟨h1, h2⟩ | h1)
      · exact .inl ⟨by omega, h2⟩
      · exact .inr h1
    · rintro (⟨h1, h2⟩ | h1)
      · by_cases hx : x ≤ f
        · exact .inl ⟨hx, h2⟩
        · exact (hno x h2 (by omega) h1).elim
      · exact .inr h1
/-- what a cut does -/
structure Cn (r b : Str) (evs : List Ev) (n : Str) (p p' : PS) (a : Int) : Prop where
  first : p'.first = a
  room : p'.room = p.room
  box : p'.box = p.box
  mended : p'.mended = if a = p.first then p.mended else none
  cl : ∃ cl : List Int, cl.Pairwise (· < ·) ∧ (∀ x, x ∈ cl ↔ (x < a ∧ IsCut evs n x) ∨ x = a) ∧ cl.getLast? = some a ∧ p'.found = dueF r b evs n cl
theorem cut_ok {p : PS} {a : Int} (J : Jn r b evs pre suf n h p) (ha : p.first ≤ a) (hah : a ≤ h) (hs : ∀ e ∈ suf, e.name = n → a ≤ e.at_) (hlm : ∀ e ∈ suf, ∀ m w v, e.deed = .lend m w v → 1 ≤ m) : Cn r b evs n p (cutP p a) a ∧ (∀ u, p.til = some u → u ≤ a → (cutP p a).til = none ∧ (cutP p a).place = plR p.room p.box) ∧ (p.til = none → (cutP p a).til = none ∧ (cutP p a).place = p.place) := by
  obtain ⟨cl, pw, hm, hl, hf⟩ := J.cl
  -- between the first hour and a there is no cut but the end of a lending
  have hno : ∀ x, IsCut evs n x → p.first < x → x < a → p.til = some x := fun x hx h1 h2 => by
    rcases hx with rfl | ⟨e, he, hn, hx⟩
    · have := J.f0; omega
    · rw [J.sp] at he
      rcases List.mem_append.mp he with he | he
      · exact J.cu x (.inr ⟨e, he, hn, hx⟩) h1 (by omega)
      · have := hs e he hn
        rcases hx with hx | ⟨m, w, v, hd, hx⟩
        · omega
        · have := hlm e he m w v hd
          omega
  have stat : ∀ x, p.first ≤ x → x < a → stateF r b evs n x = stateF r b pre n x := fun x h1 h2 => by
    rw [J.sp]
    exact state_pre fun e he hn => by have := hs e he hn; omega
  by_cases hfa : p.first < a
  · -- time passes
    rcases J.pl with ⟨ht, hpl, hst⟩ | ⟨u, w, v, ht, hfu, hcu, hpl, hst⟩
    · have ec : cutP p a = { p with found := p.found ++ [strU p.first a p.place p.mended], first := a, mended := none } := by
        unfold cutP cut0
        rw [ht]
        exact if_pos hfa
      have es : stU r b evs n p.first a = strU p.first a p.place p.mended := by
        unfold stU
        rw [stat _ (Int.le_refl _) hfa, hst _ (Int.le_refl _) J.fh, hpl]
        simp [plS]
      obtain ⟨c1, c2, c3⟩ := row_snoc pw hm hfa fun x h1 h2 h3 => by have := hno x h1 h2 h3; rw [ht] at this; cases this
      rw [ec]
      refine ⟨⟨rfl, rfl, rfl, by rw [if_neg (by omega)], cl ++ [a], c1, c2, c3, by rw [dueF_snoc hl, es, ← hf]⟩, (fun u hu => by rw [ht] at hu; cases hu), fun _ => ⟨ht, rfl⟩⟩
    · have es1 : ∀ y, stU r b evs n p.first y = strU p.first y p.place p.mended := fun y => by
        unfold stU
        rw [stat _ (Int.le_refl _) hfa, hst _ (Int.le_refl _) J.fh, hpl]
        simp [plS, hfu]
      have nob : ∀ x, IsCut evs n x → p.first < x → x < u → x < a → False := fun x h1 h2 h3 h4 => by
        have := hno x h1 h2 h4
        rw [ht] at this
        cases this
        omega
      by_cases hua : u ≤ a
      · obtain ⟨c1, c2, c3⟩ := row_snoc pw hm hfu fun x h1 h2 h3 => nob x h1 h2 h3 (by omega)
        have c2' : ∀ x, x ∈ cl ++ [u] ↔ x ≤ u ∧ IsCut evs n x := fun x => by
          rw [c2]
          constructor
          · rintro (⟨h1, h2⟩ | rfl)
            · exact ⟨by omega, h2⟩
            · exact ⟨Int.le_refl _, hcu⟩
          · rintro ⟨h1, h2⟩
            by_cases e : x = u
            · exact .inr e
            · exact .inl ⟨by omega, h2⟩
        have e1 : cut0 { p with til := none } u = { p with til := none, found := p.found ++ [strU p.first u p.place p.mended], first := u, mended := none } := if_pos hfu
        have ec : cutP p a = cut0 { p with til := none, found := p.found ++ [strU p.first u p.place p.mended], first := u, mended := none, place := plR p.room p.box } a := by
          unfold cutP
          rw [ht]
          show (if u ≤ a then cut0 { cut0 { p with til := none } u with place := plR p.room p.box } a else _) = _
          rw [if_pos hua, e1]
        have fd1 : p.found ++ [strU p.first u p.place p.mended] = dueF r b evs n (cl ++ [u]) := by rw [dueF_snoc hl, es1, ← hf]
        rw [ec]
        by_cases hu2 : u < a
        · have e2 : cut0 { p with til := none, found := p.found ++ [strU p.first u p.place p.mended], first := u, mended := none, place := plR p.room p.box } a = { p with til := none, found := (p.found ++ [strU p.first u p.place p.mended]) ++ [strU u a (plR p.room p.box) none], first := a, mended := none, place := plR p.room p.box } := if_pos hu2
          have es2 : stU r b evs n u a = strU u a (plR p.room p.box) none := by
            unfold stU
            rw [stat _ (by omega) hu2, hst _ (by omega) (by omega)]
            simp [plS, show ¬ u = p.first by omega]
          obtain ⟨d1, d2, d3⟩ := row_snoc c1 c2' hu2 fun x h1 h2 h3 => by
            have := hno x h1 (by omega) h3
            rw [ht] at this
            cases this
            omega
          rw [e2]
          exact ⟨⟨rfl, rfl, rfl, by rw [if_neg (by omega)], cl ++ [u] ++ [a], d1, d2, d3, by show (p.found ++ [strU p.first u p.place p.mended]) ++ [strU u a (plR p.room p.box) none] = _; rw [dueF_snoc c3, es2, fd1]⟩, (fun _ _ _ => ⟨rfl, rfl⟩), fun z => by rw [ht] at z; cases z⟩
        · have eua : u = a := by omega
          have e2 : cut0 { p with til := none, found := p.found ++ [strU p.first u p.place p.mended], first := u, mended := none, place := plR p.room p.box } a = { p with til := none, found := p.found ++ [strU p.first u p.place p.mended], first := u, mended := none, place := plR p.room p.box } := if_neg hu2
          rw [e2]
          exact ⟨⟨eua, rfl, rfl, by rw [if_neg (by omega)], cl ++ [u], c1, by rw [← eua]; exact c2, by rw [← eua]; exact c3, fd1⟩, (fun _ _ _ => ⟨rfl, rfl⟩), fun z => by rw [ht] at z; cases z⟩
      · have ec1 : cutP p a = cut0 p a := by
          unfold cutP
          rw [ht]
          exact if_neg hua
        have ec2 : cut0 p a = { p with found := p.found ++ [strU p.first a p.place p.mended], first := a, mended := none } := if_pos hfa
        have ec := ec1.trans ec2
        obtain ⟨c1, c2, c3⟩ := row_snoc pw hm hfa fun x h1 h2 h3 => nob x h1 h2 (by omega) h3
        rw [ec]
        refine ⟨⟨rfl, rfl, rfl, by rw [if_neg (by omega)], cl ++ [a], c1, c2, c3, by rw [dueF_snoc hl, es1, ← hf]⟩, (fun u' hu' hl' => ?_), fun z => by rw [ht] at z; cases z⟩
        rw [ht] at hu'
        cases hu'
        exact absurd hl' hua
  · -- none
    have eaf : a = p.first := by omega
    have ec : cutP p a = p := by
      rcases J.pl with ⟨ht, hpl, hst⟩ | ⟨u, w, v, ht, hfu, hcu, hpl, hst⟩
      · unfold cutP cut0
        rw [ht]
        exact if_neg hfa
      · unfold cutP
        rw [ht]
        show (if u ≤ a then _ else cut0 p a) = _
        rw [if_neg (by omega)]
        exact if_neg hfa
    rw [ec]
    refine ⟨⟨eaf.symm, rfl, rfl, by rw [if_pos eaf], cl, pw, fun x => ?_, by rw [eaf]; exact hl, hf⟩, (fun u hu hl' => ?_), fun z => ⟨z, rfl⟩⟩
    · rw [hm]
      have hfc : IsCut evs n p.first := ((hm _).mp (List.mem_of_getLast? hl)).2
      constructor
      · rintro ⟨h1, h2⟩
        by_cases e : x = a
        · exact .inr e
        · exact .inl ⟨by omega, h2⟩
      · rintro (⟨h1, h2⟩ | rfl)
        · exact ⟨by omega, h2⟩
        · exact ⟨by omega, by rw [eaf]; exact hfc⟩
    · rcases J.pl with ⟨ht, _⟩ | ⟨u2, w, v, ht, hfu, _⟩
      · rw [ht] at hu; cases hu
      · rw [ht] at hu; cases hu; omega
end
end Y

namespace Y
open PySem PySem.Spec PyProof.Rows L2
section
variable {r b : Str} {evs pre suf : List Ev} {n : Str} {h : Int}
theorem isCut_snoc {e : Ev} {x : Int} (hx : IsCut (pre ++ [e]) n x) : IsCut pre n x ∨ isCutE n e x := by
  rcases hx with hx | ⟨e', he', hc⟩
  · exact .inl (.inl hx)
  · rcases List.mem_append.mp he' with he' | he'
    · exact .inl (.inr ⟨e', he', hc⟩)
    · rw [List.mem_singleton.mp he'] at hc
      exact .inr hc
theorem step_skip {p : PS} {e : Ev} (J : Jn r b evs pre (e :: suf) n h p) (ha : ¬ (e.name = n ∧ e.at_ < h)) (hlm : ∀ m w v, e.deed = .lend m w v → 1 ≤ m) : Jn r b evs (pre ++ [e]) suf n h p := by
  have st : ∀ x, x < h → stateF r b (pre ++ [e]) n x = stateF r b pre n x := fun x hx => by
    rw [state_snoc]
    exact if_neg fun z => ha ⟨z.1, by omega⟩
  refine ⟨by rw [J.sp, List.append_assoc]; rfl, J.f0, J.fh, fun e' he' => J.fs e' (List.mem_cons_of_mem _ he'), J.cl, ?_, fun x hx h1 h2 => ?_⟩
  · rcases J.pl with ⟨h1, h2, h3⟩ | ⟨u, w, v, h1, h2, h3, h4, h5⟩
    · exact .inl ⟨h1, h2, fun x hx hxh => by rw [st x hxh]; exact h3 x hx hxh⟩
    · exact .inr ⟨u, w, v, h1, h2, h3, h4, fun x hx hxh => by rw [st x hxh]; exact h5 x hx hxh⟩
  · rcases isCut_snoc hx with hx | ⟨hn, hx⟩
    · exact J.cu x hx h1 h2
    · exfalso
      have : ¬ e.at_ < h := fun z => ha ⟨hn, z⟩
      rcases hx with hx | ⟨m, w, v, hd, hx⟩
      · omega
      · have := hlm m w v hd
        omega
theorem step_go {p : PS} {e : Ev} (J : Jn r b evs pre (e :: suf) n h p) (hn : e.name = n) (hat : e.at_ < h) (ho : ∀ e' ∈ suf, Ord e e') (hlm : ∀ e' ∈ e :: suf, ∀ m w v, e'.deed = .lend m w v → 1 ≤ m) : Jn r b evs (pre ++ [e]) suf n h (doneP p e.at_ e.deed) := by
  obtain ⟨hfa, htu⟩ := J.fs e List.mem_cons_self hn
  have hs : ∀ e' ∈ e :: suf, e'.name = n → e.at_ ≤ e'.at_ := fun e' he' _ => by
    rcases List.mem_cons.mp he' with z | he'
    · rw [z]; exact Int.le_refl _
    · exact (ho e' he').1
  obtain ⟨C, hu, hnn⟩ := cut_ok J hfa (by omega) hs hlm
  have hee : e ∈ evs := by rw [J.sp]; exact List.mem_append_right _ List.mem_cons_self
  have hca : IsCut evs n e.at_ := .inr ⟨e, hee, hn, .inl rfl⟩
  have tp : (cutP p e.at_).til = none ∧ (cutP p e.at_).place = plR p.room p.box := by
    rcases J.pl with ⟨h1, h2, h3⟩ | ⟨u, w, v, h1, h2, h3, h4, h5⟩
    · exact ⟨(hnn h1).1, (hnn h1).2.trans h2⟩
    · exact hu u h1 (htu u h1)
  have st : ∀ x, e.at_ ≤ x → x < h → stateF r b pre n x = ⟨p.room, p.box, none, if x = e.at_ then (cutP p e.at_).mended else none⟩ := fun x h1 h2 => by
    have key : (if x = p.first then p.mended else none) = if x = e.at_ then (cutP p e.at_).mended else none := by
      rw [C.mended]
      by_cases hx : x = e.at_
      · subst hx; rw [if_pos rfl]
      · rw [if_neg hx, if_neg (by omega)]
    rcases J.pl with ⟨_, _, h3⟩ | ⟨u, w, v, h1', h2', h3', h4', h5⟩
    · rw [h3 x (by omega) h2, key]
    · rw [h5 x (by omega) h2, key, if_neg (by have := htu u h1'; omega)]
  have cl : ∃ cl : List Int, cl.Pairwise (· < ·) ∧ (∀ x, x ∈ cl ↔ x ≤ e.at_ ∧ IsCut evs n x) ∧ cl.getLast? = some e.at_ ∧ (cutP p e.at_).found = dueF r b evs n cl := by
    obtain ⟨cl, c1, c2, c3, c4⟩ := C.cl
    refine ⟨cl, c1, fun x => ?_, c3, c4⟩
    rw [c2]
    constructor
    · rintro (⟨h1, h2⟩ | rfl)
      · exact ⟨by omega, h2⟩
      · exact ⟨Int.le_refl _, hca⟩
    · rintro ⟨h1, h2⟩
      by_cases hx : x = e.at_
      · exact .inr hx
      · exact .inl ⟨by omega, h2⟩
  have sn : ∀ x, e.at_ ≤ x → stateF r b (pre ++ [e]) n x = (match e.deed with
    | .move r' => { stateF r b pre n x with room := r' }
    | .box b' => { stateF r b pre n x with box := b' }
    | .lend m w v => if x < e.at_ + m then { stateF r b pre n x with away := some (w, v) } else stateF r b pre n x
    | .mend k => if e.at_ = x then { stateF r b pre n x with mended := some k } else stateF r b pre n x) := fun x hx => by
    rw [state_snoc]
    exact if_pos ⟨hn, hx⟩
  have ff : ∀ d, (doneP p e.at_ d).first = e.at_ := fun d => by cases d <;> exact C.first
  have fnd : ∀ d, (doneP p e.at_ d).found = (cutP p e.at_).found := fun d => by cases d <;> rfl
  have preC : ∀ x, IsCut pre n x → e.at_ < x → x < h → False := fun x hx h1 h2 => by
    have := J.cu x hx (by omega) h2
    have := htu x this
    omega
  refine ⟨by rw [J.sp, List.append_assoc]; rfl, by rw [ff]; have := J.f0; omega, by rw [ff]; exact hat, fun e' he' hn' => ?_, by rw [ff, fnd]; exact cl, ?_, fun x hx h1 h2 => ?_⟩
  · rw [ff]
    refine ⟨(ho e' he').1, fun u hu => ?_⟩
    have hend := (ho e' he').2 (by rw [hn, hn'])
    cases hd : e.deed with
    | lend m w v =>
      rw [hd] at hu
      have : (e.at_ + m) = u := Option.some.inj hu
      unfold endOf at hend
      rw [hd] at hend
      have hend' : e.at_ + m ≤ e'.at_ := hend
      omega
    | move z => rw [hd] at hu; exact absurd (hu.symm.trans tp.1) (by simp)
    | box z => rw [hd] at hu; exact absurd (hu.symm.trans tp.1) (by simp)
    | mend z => rw [hd] at hu; exact absurd (hu.symm.trans tp.1) (by simp)
  · rw [ff]
    cases hd : e.deed with
    | lend m w v =>
      refine .inr ⟨e.at_ + m, w, v, rfl, ?_, .inr ⟨e, hee, hn, .inr ⟨m, w, v, hd, rfl⟩⟩, rfl, fun x h1 h2 => ?_⟩
      · have := hlm e List.mem_cons_self m w v hd
        omega
      · rw [sn x h1, hd, st x h1 h2]
        show (if x < e.at_ + m then _ else _) = ST.mk (cutP p e.at_).room (cutP p e.at_).box _ (if x = e.at_ then (cutP p e.at_).mended else none)
        rw [C.room, C.box]
        split <;> rfl
    | move z =>
      refine .inl ⟨tp.1, rfl, fun x h1 h2 => ?_⟩
      rw [sn x h1, hd, st x h1 h2]
      show _ = ST.mk z (cutP p e.at_).box none (if x = e.at_ then (cutP p e.at_).mended else none)
      rw [C.box]
    | box z =>
      refine .inl ⟨tp.1, rfl, fun x h1 h2 => ?_⟩
      rw [sn x h1, hd, st x h1 h2]
      show _ = ST.mk (cutP p e.at_).room z none (if x = e.at_ then (cutP p e.at_).mended else none)
      rw [C.room]
    | mend z =>
      refine .inl ⟨tp.1, ?_, fun x h1 h2 => ?_⟩
      · show (cutP p e.at_).place = plR (cutP p e.at_).room (cutP p e.at_).box
        rw [tp.2, C.room, C.box]
      rw [sn x h1, hd, st x h1 h2]
      show (if e.at_ = x then _ else _) = ST.mk (cutP p e.at_).room (cutP p e.at_).box none (if x = e.at_ then some z else none)
      rw [C.room, C.box]
      by_cases hx : e.at_ = x
      · subst hx
        simp only [if_true]
      · rw [if_neg hx, if_neg (fun z => hx z.symm), if_neg (fun z => hx z.symm)]
  · rw [ff] at h1
    rcases isCut_snoc hx with hx | ⟨_, hx⟩
    · exact (preC x hx h1 h2).elim
    · rcases hx with hx | ⟨m, w, v, hd, hx⟩
      · omega
      · rw [hd, hx]
        rfl
theorem sorted_eq : ∀ {a b : List Int}, a.Pairwise (· < ·) → b.Pairwise (· < ·) → (∀ x, x ∈ a ↔ x ∈ b) → a = b
  | [], [], _, _, _ => rfl
  | [], y :: b, _, _, h => by have := (h y).mpr List.mem_cons_self; cases this
  | x :: a, [], _, _, h => by have := (h x).mp List.mem_cons_self; cases this
  | x :: a, y :: b, ha, hb, h => by
    rw [List.pairwise_cons] at ha hb
    have e : x = y := by
      have h1 := (h x).mp List.mem_cons_self
      have h2 := (h y).mpr List.mem_cons_self
      rcases List.mem_cons.mp h1 with h1 | h1
      · exact h1
      · rcases List.mem_cons.mp h2 with h2 | h2
        · exact h2.symm
        · have := hb.1 x h1
          have := ha.1 y h2
          omega
    subst e
    have ih := sorted_eq ha.2 hb.2 fun z => by
      constructor
      · intro hz
        rcases List.mem_cons.mp ((h z).mp (List.mem_cons_of_mem _ hz)) with e | hz'
        · subst e; have := ha.1 z hz; omega
        · exact hz'
      · intro hz
        rcases List.mem_cons.mp ((h z).mpr (List.mem_cons_of_mem _ hz)) with e | hz'
        · subst e; have := hb.1 z hz; omega
        · exact hz'
    rw [ih]
theorem run_ok (hev : GoodEv evs) : ∀ (suf pre : List Ev) (p : PS), Jn r b evs pre suf n h p → Jn r b evs evs [] n h (suf.foldl (stepP n h) p)
  | [], pre, p, J => by
    have : evs = pre := by rw [J.sp, List.append_nil]
    rw [List.foldl_nil]
    rw [← this] at J
    exact J
  | e :: suf, pre, p, J => by
    rw [List.foldl_cons]
    refine run_ok hev suf (pre ++ [e]) _ ?_
    have hmem : ∀ e' ∈ e :: suf, e' ∈ evs := fun e' he' => by rw [J.sp]; exact List.mem_append_right _ he'
    have hlm : ∀ e' ∈ e :: suf, ∀ m w v, e'.deed = .lend m w v → 1 ≤ m := fun e' he' => (hev.ok e' (hmem e' he')).2.2
    have ho : ∀ e' ∈ suf, Ord e e' := fun e' he' => by
      have := hev.pw
      rw [J.sp] at this
      have := (List.pairwise_append.mp this).2.1
      exact (List.pairwise_cons.mp this).1 e' he'
    unfold stepP
    by_cases ha : e.name = n ∧ e.at_ < h
    · rw [if_pos ha]
      exact step_go J ha.1 ha.2 ho hlm
    · rw [if_neg ha]
      exact step_skip J ha (hlm e List.mem_cons_self)
theorem cut_nn (hev : GoodEv evs) {x : Int} (hx : IsCut evs n x) : 0 ≤ x := by
  rcases hx with rfl | ⟨e, he, _, hx⟩
  · exact Int.le_refl _
  · obtain ⟨h1, _, h3⟩ := hev.ok e he
    rcases hx with hx | ⟨m, w, v, hd, hx⟩
    · omega
    · have := h3 m w v hd
      omega
theorem path_due (hev : GoodEv evs) (h0 : 0 ≤ h) {cs : List Int} (hpw : cs.Pairwise (· < ·)) (hm : ∀ x, x ∈ cs ↔ IsCut evs n x) : pathF r b evs n h = dueF r b evs n (dueC cs h) := by
  by_cases hz : h = 0
  · subst hz
    have e1 : runP r b evs n 0 = p00 r b := by
      unfold runP
      have : ∀ (l : List Ev), (∀ e ∈ l, 0 ≤ e.at_) → l.foldl (stepP n 0) (p00 r b) = p00 r b := by
        intro l
        induction l with
        | nil => exact fun _ => rfl
        | cons e l ih =>
          intro hl
          rw [List.foldl_cons, show stepP n 0 (p00 r b) e = p00 r b from if_neg fun z => absurd (hl e List.mem_cons_self) (by omega)]
          exact ih fun e' he' => hl e' (List.mem_cons_of_mem _ he')
      exact this evs fun e he => (hev.ok e he).1
    have e2 : cs.filter (fun x => decide (x < 0)) = [] := by
      rw [List.filter_eq_nil_iff]
      intro x hx
      have := cut_nn hev ((hm x).mp hx)
      simp only [decide_eq_true_eq]
      omega
    unfold pathF dueC
    rw [e1, e2]
    rfl
  · have J0 : Jn r b evs [] evs n h (p00 r b) := by
      refine ⟨rfl, Int.le_refl _, by show (0 : Int) < h; omega, fun e he _ => ⟨(hev.ok e he).1, fun u hu => by cases hu⟩, ⟨[0], by simp, fun x => ?_, rfl, rfl⟩, .inl ⟨rfl, rfl, fun x _ _ => ?_⟩, fun x hx h1 h2 => ?_⟩
      · rw [List.mem_singleton]
        constructor
        · rintro rfl
          exact ⟨Int.le_refl _, .inl rfl⟩
        · rintro ⟨h1, h2⟩
          have := cut_nn hev h2
          have h1' : x ≤ 0 := h1
          omega
      · show (⟨r, b, none, none⟩ : ST) = ⟨r, b, none, if x = 0 then none else none⟩
        split <;> rfl
      · rcases hx with hx | ⟨_, hx, _⟩
        · have h1' : (0 : Int) < x := h1
          omega
        · cases hx
    have J := run_ok hev evs [] _ J0
    obtain ⟨C, _, _⟩ := cut_ok J (a := h) (by have := J.fh; omega) (Int.le_refl _) (fun _ he => nomatch he) (fun _ he => nomatch he)
    obtain ⟨cl, c1, c2, c3, c4⟩ := C.cl
    have e : dueC cs h = cl := by
      refine sorted_eq ?_ c1 fun x => ?_
      · unfold dueC
        refine List.pairwise_append.mpr ⟨hpw.filter _, List.pairwise_singleton _ _, fun x hx y hy => ?_⟩
        rw [List.mem_singleton.mp hy]
        exact of_decide_eq_true (List.mem_filter.mp hx).2
      · rw [c2]
        unfold dueC
        rw [List.mem_append, List.mem_singleton, List.mem_filter, hm, decide_eq_true_eq]
        exact ⟨fun h => by rcases h with ⟨h1, h2⟩ | h; exact .inl ⟨h2, h1⟩; exact .inr h, fun h => by rcases h with ⟨h1, h2⟩ | h; exact .inl ⟨h2, h1⟩; exact .inr h⟩
    rw [e]
    exact c4
end
end Y

namespace Y
open PySem PySem.Spec PyProof.Rows L2
local macro_rules | `(tactic| walk_at "y1") => `(tactic| simp only [wpS, wpE, wpEs, wpO, wpC, wpI, binU, cmpU, intU, isB, partU, gU, gsU, startU, DF, List.map_cons, List.map_nil, List.length_cons, List.length_nil, List.cons_append, List.nil_append, List.replicate, List.getElem?_cons_zero, List.getElem?_cons_succ, List.set_cons_zero, List.set_cons_succ, true_and, and_true, if_true, Bool.false_eq_true, if_false, Nat.reduceAdd, Nat.reduceSub, w_nil])
theorem pure_non {n : Nat} : PureN (n + 1) .non := rfl
theorem pure_opt {n : Nat} {o : Option Int} : PureN (n + 1) (optU o) := by
  cases o with
  | none => exact pure_non
  | some i => exact pure_int
theorem pure_pl {n : Nat} {s : ST} : PureN (n + 2) (plS s) := by
  unfold plS
  cases s.away with
  | none =>
    refine pure_tup (by simp) fun y hy => ?_
    · simp only [List.mem_cons, List.not_mem_nil, or_false] at hy
      rcases hy with rfl | rfl | rfl <;> exact pure_str
  | some p =>
    refine pure_tup (by simp) fun y hy => ?_
    · simp only [List.mem_cons, List.not_mem_nil, or_false] at hy
      rcases hy with rfl | rfl | rfl
      · exact pure_str
      · exact pure_int
      · exact pure_int
theorem pure_due {n : Nat} {r b : Str} {evs : List Ev} {nm : Str} : ∀ (l : List Int), ∀ x ∈ dueF r b evs nm l, PureN (n + 3) x
  | [], x, hx => by cases hx
  | [_], x, hx => by cases hx
  | a :: c :: l, x, hx => by
    rw [dueF] at hx
    rcases List.mem_cons.mp hx with rfl | hx
    · refine pure_tup (by simp) fun y hy => ?_
      simp only [List.mem_cons, List.not_mem_nil, or_false] at hy
      rcases hy with rfl | rfl | rfl | rfl
      · exact pure_int
      · exact pure_int
      · exact pure_pl
      · exact pure_opt
    · exact pure_due (c :: l) x hx
theorem sim_ls {n : Nat} {G : Gp} {a b : Addr} {xs : List U} (h1 : G a = some (.lst xs)) (h2 : G b = some (.lst xs)) (hz : xs.length ≤ 1000) (hp : ∀ x ∈ xs, PureN n x) : simU (n + 1) G (.ref a) (.ref b) = true := by
  show (match lsG (G a), lsG (G b) with
      | some xs, some ys => decide (xs.length ≤ 1000) && simL (simU n G) xs ys
      | _, _ => false) = true
  rw [lsG_of h1, lsG_of h2]
  simp only [decide_eq_true hz, Bool.true_and]
  exact simL_self fun x hx => (hp x hx).sim
theorem fdN_some {n : Str} : ∀ {ts : List U}, (∃ x ∈ ts, nmOf x = some n) → ∃ r, r ∈ ts ∧ fdN n ts = some r ∧ nmOf r = some n
  | [], h => by obtain ⟨_, h, _⟩ := h; cases h
  | y :: ts, h => by
    unfold fdN
    by_cases e : nmOf y = some n
    · rw [if_pos e]
      exact ⟨y, List.mem_cons_self, rfl, e⟩
    · rw [if_neg e]
      obtain ⟨x, hx, hn⟩ := h
      rcases List.mem_cons.mp hx with z | hx
      · rw [z] at hn; exact absurd hn e
      · obtain ⟨r, h1, h2, h3⟩ := fdN_some ⟨x, hx, hn⟩
        exact ⟨r, List.mem_cons_of_mem _ h1, h2, h3⟩
def sp_right : SpU := fun us G Q _ => ∃ a k r b t e ks rs bs ts evs n h, us = [.ref a, rowsU k r b t e, .str n, .int h] ∧ IsArc G a ks rs bs ts ((evs : List Ev).map Ev.u) ∧ G t = some (.lst ts) ∧ G e = some (.lst (evs.map Ev.u)) ∧ evs.length ≤ 100 ∧ ts.length ≤ 1000 ∧ (∀ x ∈ ts, isTh x) ∧ (∃ x ∈ ts, nmOf x = some n) ∧ GoodEv evs ∧ 0 ≤ h ∧ h ≤ 1000000000 ∧ Q (.bl true) G
theorem w_right {Γ : Gm} {E : XS} {us : List U} {G : Gp} {Q : UK} {X : XU} (f1 : Γ.fn f__law_due = sp_due) (a1 : Γ.ar f__law_due = 3) (f2 : Γ.fn f_stretches = sp_stretches) (a2 : Γ.ar f_stretches = 3) (f3 : Γ.fn f__law_alike = sp_alike 6) (a3 : Γ.ar f__law_alike = 2) (h : sp_right us G Q X) : wpSs Γ E ir__law_right (DF Q) (startU ce__law_right.N us) G := by
  obtain ⟨a, k, r, b, t, e, ks, rs, bs, ts, evs, n, h, rfl, hA, gt, ge, hel, htl, hth, hex, hev, h0, h1, q⟩ := h
  obtain ⟨row, hrm, hfd, hnm⟩ := fdN_some hex
  obtain ⟨nm, kd, rm, bx, pt, rfl⟩ := hth row hrm
  have enm : nm = n := Option.some.inj hnm
  subst enm
  unfold ce__law_right
  refine w_cons ?_
  walk_at "y1"
  rw [f1, a1]
  refine ⟨rfl, k, r, b, t, e, ts, evs, nm, h, _, rm, bx, _, rfl, gt, ge, hel, htl, hth, hfd, fun G1 p cs s1 np hpw hmem hcl gp => w_go (w_cons ?_)⟩
  have hpd := path_due (r := rm) (b := bx) hev h0 hpw hmem
  have dl : (dueF rm bx evs nm (dueC cs h)).length ≤ 1000 := by
    rw [dueF_len]
    unfold dueC
    rw [List.length_append, List.length_singleton]
    have := List.length_filter_le (fun x => decide (x < h)) cs
    omega
  obtain ⟨due, hdue⟩ : ∃ due, dueF rm bx evs nm (dueC cs h) = due := ⟨_, rfl⟩
  have pd : ∀ x ∈ due, PureN 5 x := by rw [← hdue]; exact pure_due (n := 2) _
  rw [hdue] at hpd dl gp
  walk_at "y1"
  refine ⟨by decide, by decide, ?_⟩
  refine loop_inv _ (fun i σ G' => ∃ s5 s6, σ = [some (.ref a), some (rowsU k r b t e), some (.str nm), some (.int h), some (.ref p), s5, s6] ∧ Sub G G' ∧ G' p = some (.lst due)) ⟨none, none, rfl, s1, gp⟩ (fun _ _ _ _ _ => trivial) (fun i x σ G' hx hP nx hnx => ?_) (fun σ G' hP => ?_)
  · obtain ⟨s5, s6, rfl, sG, gp'⟩ := hP
    simp only [gU, List.set_cons_succ, List.set_cons_zero]
    refine w_cons ?_
    walk_at "y1"
    rw [f2, a2]
    refine ⟨rfl, a, ks, rs, bs, ts, evs, nm, h, _, rm, bx, _, rfl, hA.mono sG, fun x hx => ?_, hfd, hel, h0, h1, fun G2 f s2 nf gf => w_go (w_cons ?_)⟩
    · obtain ⟨m, hm, _⟩ := isTh_nm (hth x hx)
      exact ⟨m, hm⟩
    rw [hpd] at gf
    walk_at "y1"
    refine bi_isi (m := .lst) (by simp only [tyU, gf]) ?_
    simp only [BT.sub, decide_true, Bool.not_true, Bool.false_eq_true, if_false]
    rw [f3, a3]
    refine ⟨rfl, _, _, rfl, sim_ls (n := 5) gf (s2 _ _ gp') dl pd, ?_⟩
    simp only [Bool.not_true, Bool.false_eq_true, if_false]
    refine w_go (w_cons ?_)
    walk_at "y1"
    have npf : p ≠ f := Ne.symm (ne_of gp' nf)
    refine ⟨tm_app gf, bm_app gf (Nat.lt_of_le_of_lt dl (by decide)) (w_go (hnx _ _ ⟨_, _, rfl, ?_, ?_⟩))⟩
    · intro x o hx
      rw [put_ne]
      · exact s2 _ _ (sG x o hx)
      · intro z; subst z; rw [sG _ _ hx] at nf; cases nf
    · rw [put_ne npf]
      exact s2 _ _ gp'
  · obtain ⟨s5, s6, rfl, sG, gp'⟩ := hP
    refine w_go (w_cons ?_)
    walk_at "y1"
    exact w_sub sG q
end Y

namespace Y
open PySem PySem.Spec PyProof.Rows L2
local macro_rules | `(tactic| walk_at "y1") => `(tactic| simp only [wpS, wpE, wpEs, wpO, wpC, wpI, binU, cmpU, intU, isB, partU, gU, gsU, startU, DF, List.map_cons, List.map_nil, List.length_cons, List.length_nil, List.cons_append, List.nil_append, List.replicate, List.getElem?_cons_zero, List.getElem?_cons_succ, List.set_cons_zero, List.set_cons_succ, true_and, and_true, if_true, Bool.false_eq_true, if_false, Nat.reduceAdd, Nat.reduceSub, w_nil])
theorem ArcR.mono {G G' : Gp} {k r b t e : Addr} {ks rs bs ts : List U} {evs : List Ev} (A : ArcR G k r b t e ks rs bs ts evs) (s : Sub G G') : ArcR G' k r b t e ks rs bs ts evs :=
  ⟨s _ _ A.k, s _ _ A.r, s _ _ A.b, s _ _ A.t, s _ _ A.e, A.ks, A.rs, A.bs, A.ts, A.evs⟩
theorem pure_ev {n : Nat} (e : Ev) : PureN (n + 3) e.u := by
  refine pure_tup (by simp) fun y hy => ?_
  simp only [List.mem_cons, List.not_mem_nil, or_false] at hy
  rcases hy with rfl | rfl | rfl
  · exact pure_int
  · exact pure_str
  · cases e.deed <;> refine pure_tup (by simp) fun y hy => ?_ <;> simp only [List.mem_cons, List.not_mem_nil, or_false] at hy
    · rcases hy with rfl | rfl <;> exact pure_str
    · rcases hy with rfl | rfl <;> exact pure_str
    · rcases hy with rfl | rfl
      · exact pure_str
      · exact pure_int
    · rcases hy with rfl | rfl | rfl | rfl
      · exact pure_str
      · exact pure_int
      · exact pure_int
      · exact pure_int
theorem pure_th {n : Nat} {x : U} (h : isTh x) : PureN (n + 2) x := by
  obtain ⟨nm, kd, r, b, k, rfl⟩ := h
  refine pure_tup (by simp) fun y hy => ?_
  simp only [List.mem_cons, List.not_mem_nil, or_false] at hy
  rcases hy with rfl | rfl | rfl | rfl | rfl
  · exact pure_str
  · exact pure_str
  · exact pure_str
  · exact pure_str
  · exact pure_int
structure Fns (Γ : Gm) : Prop where
  mixed : Γ.fn f__law_mixed = sp_mixed ∧ Γ.ar f__law_mixed = 2
  cell : Γ.fn f__law_cell_at = sp_cell ∧ Γ.ar f__law_cell_at = 2
  arc : Γ.fn f__law_archive = sp_archive ∧ Γ.ar f__law_archive = 3
  right : Γ.fn f__law_right = sp_right ∧ Γ.ar f__law_right = 4
  alike : Γ.fn f__law_alike = sp_alike 6 ∧ Γ.ar f__law_alike = 2
  init : Γ.fn f_Archive___init__ = sp_ainit ∧ Γ.ar f_Archive___init__ = 6
  told : Γ.fn f_Archive_told = sp_told ∧ Γ.ar f_Archive_told = 1
/-- the end: all that was handed in is told -/
theorem w_law7 {Γ : Gm} {E : XS} {G G1 : Gp} {Q : UK} {a k r b t e : Addr} {ks rs bs ts : List U} {evs : List Ev} {s0 s1 s4 s5 s6 s7 s8 s9 s10 s11 s12 s13 s14 : Option U} (F : Fns Γ) (sG : Sub G G1) (hA : IsArc G1 a ks rs bs ts (evs.map Ev.u)) (A : ArcR G1 k r b t e ks rs bs ts evs) (q : Q (.bl true) G) :
    wpSs Γ E ir_law_7 (DF Q) [s0, s1, some (rowsU k r b t e), some (.ref a), s4, s5, s6, s7, s8, s9, s10, s11, s12, s13, s14] G1 := by
  obtain ⟨_, _, _, _, _, ha, _⟩ := hA.ex
  refine w_cons ?_
  walk_at "y1"
  refine ins_of ha ⟨rfl, ?_⟩
  simp only [List.lookup, BEq.rfl, F.told.1, F.told.2, true_and]
  refine ⟨a, ks, rs, bs, ts, _, rfl, hA, fun G2 p1 p2 p3 p4 p5 s e1 e2 e3 e4 e5 _ => ?_⟩
  rw [F.alike.1, F.alike.2]
  refine ⟨rfl, _, _, rfl, ?_, w_sub (sG.trans s) q⟩
  have A2 := A.mono s
  have hT := A.ts.2
  show (decide (([U.ref p1, .ref p2, .ref p3, .ref p4, .ref p5] : List U).length ≤ 1000) && simL (simU 5 G2) _ _) = true
  simp only [simL, Bool.and_true, Bool.and_eq_true]
  refine ⟨by simp, sim_ls (n := 4) e1 A2.k A.ks.1 A.ks.2, sim_ls (n := 4) e2 A2.r A.rs.1 A.rs.2, sim_ls (n := 4) e3 A2.b A.bs.1 A.bs.2, sim_ls (n := 4) e4 A2.t (by omega) (fun x hx => pure_th (hT.2 x hx)), sim_ls (n := 4) e5 A2.e (by rw [List.length_map]; have := A.evs.2; omega) fun x hx => ?_⟩
  obtain ⟨ev, _, rfl⟩ := List.mem_map.mp hx
  exact pure_ev ev
end Y

namespace Y
open PySem PySem.Spec PyProof.Rows L2
local macro_rules | `(tactic| walk_at "y1") => `(tactic| simp only [wpS, wpE, wpEs, wpO, wpC, wpI, binU, cmpU, intU, isB, partU, gU, gsU, startU, DF, List.map_cons, List.map_nil, List.length_cons, List.length_nil, List.cons_append, List.nil_append, List.replicate, List.getElem?_cons_zero, List.getElem?_cons_succ, List.set_cons_zero, List.set_cons_succ, true_and, and_true, if_true, Bool.false_eq_true, if_false, Nat.reduceAdd, Nat.reduceSub, w_nil])
theorem one_ev {nm : Str} {m : Int} (hm : 1 ≤ m) : GoodEv [⟨2, nm, .lend m 20 50⟩] := ⟨List.pairwise_singleton _ _, fun e he => by
  rw [List.mem_singleton.mp he]
  exact ⟨(by decide : (0 : Int) ≤ 2), (by decide : (2 : Int) ≤ 1000000000), fun m' w v h => by cases h; exact hm⟩⟩
/-- things lent for long -/
theorem w_law6 {Γ : Gm} {E : XS} {G G1 : Gp} {Q : UK} {a k r b t e : Addr} {ks rs bs ts : List U} {evs : List Ev} {s0 s1 s4 s5 s6 s7 s8 s9 s10 s11 s12 s13 s14 : Option U} (F : Fns Γ) (sG : Sub G G1) (hA : IsArc G1 a ks rs bs ts (evs.map Ev.u)) (A : ArcR G1 k r b t e ks rs bs ts evs) (q : Q (.bl true) G) :
    wpSs Γ E ir_law_6 (DF Q) [s0, s1, some (rowsU k r b t e), some (.ref a), s4, s5, s6, s7, s8, s9, s10, s11, s12, s13, s14] G1 := by
  have hT := A.ts
  obtain ⟨th, trest, ets⟩ : ∃ th trest, ts = th :: trest := by
    cases ts with
    | nil => exact absurd rfl hT.1
    | cons x l => exact ⟨x, l, rfl⟩
  have hth : isTh th := hT.2.2 th (by rw [ets]; exact List.mem_cons_self)
  obtain ⟨nm, kd, rm, bx, pt, rfl⟩ := hth
  have at0 : atI ts 0 = some (.tup [.str nm, .str kd, .str rm, .str bx, .int pt]) := by rw [ets]; exact atI_nat (j := 0) rfl
  refine w_cons ?_
  walk_at "y1"
  simp only [addU]
  refine ⟨by decide, by decide, by decide, by decide, ?_⟩
  refine loop_inv _ (fun i σ G' => ∃ s9 s11 s12 s13 s14, σ = [s0, s1, some (rowsU k r b t e), some (.ref a), s4, s5, s6, s7, s8, s9, s10, s11, s12, s13, s14] ∧ Sub G1 G') ⟨s9, s11, s12, s13, s14, rfl, Sub.refl _⟩ (fun _ _ _ _ _ => trivial) (fun i x σ G' hx hP nx hnx => ?_) (fun σ G' hP => ?_)
  · obtain ⟨s9, s11, s12, s13, s14, rfl, s1'⟩ := hP
    have A' := A.mono s1'
    have hx' : ∃ m : Int, 1 ≤ m ∧ x = .int m := by
      have := List.mem_of_getElem? hx
      simp only [List.mem_cons, List.not_mem_nil, or_false] at this
      rcases this with rfl | rfl | rfl
      · exact ⟨_, by decide, rfl⟩
      · exact ⟨_, by decide, rfl⟩
      · exact ⟨_, by decide, rfl⟩
    obtain ⟨m, hm, rfl⟩ := hx'
    simp only [gU, List.set_cons_succ, List.set_cons_zero]
    refine w_cons ?_
    walk_at "y1"
    refine ix_t (atI_nat (j := 3) rfl) (ix_l A'.t at0 (ix_t (atI_nat (j := 0) rfl) ⟨by decide, by decide, w_go (w_cons ?_)⟩))
    walk_at "y1"
    simp only [rowsU, slcU, show cutU [U.ref k, .ref r, .ref b, .ref t, .ref e] none (some 4) = [U.ref k, .ref r, .ref b, .ref t] from rfl]
    refine ⟨by decide, fun p np => ⟨by decide, ?_⟩⟩
    simp only [addU]
    refine ⟨(by decide : (5 : Nat) ≤ sizeLine), w_go (w_cons ?_)⟩
    have sp := Sub.put (o := .lst [.tup [.int 2, .str nm, .tup [.str (S [108, 101, 110, 100]), .int m, .int 20, .int 50]]]) np
    have gp : put G' p (.lst [.tup [.int 2, .str nm, .tup [.str (S [108, 101, 110, 100]), .int m, .int 20, .int 50]]]) p = some (.lst (([⟨2, nm, .lend m 20 50⟩] : List Ev).map Ev.u)) := put_same
    obtain ⟨G2, hG2⟩ : ∃ G2, put G' p (.lst [.tup [.int 2, .str nm, .tup [.str (S [108, 101, 110, 100]), .int m, .int 20, .int 50]]]) = G2 := ⟨_, rfl⟩
    rw [hG2] at sp gp ⊢
    have A2 := A'.mono sp
    walk_at "y1"
    refine ix_t (atI_nat (j := 0) rfl) (ix_t (atI_nat (j := 1) rfl) (ix_t (atI_nat (j := 2) rfl) (ix_t (atI_nat (j := 3) rfl) (ix_t (atI_nat (j := 4) rfl) ?_))))
    rw [F.init.1, F.init.2]
    refine ⟨rfl, fun l nl => ⟨l, k, r, b, t, p, ks, rs, bs, ts, _, rfl, put_same, put_at A2.k nl, put_at A2.r nl, put_at A2.b nl, put_at A2.t nl, put_at gp nl, fun G3 z1 hL => ⟨rfl, ?_⟩⟩⟩
    have s3 : Sub G2 G3 := fun x o hx => z1 x o (fun z => by subst z; rw [nl] at hx; cases hx) (put_at hx nl)
    refine w_go (w_cons ?_)
    walk_at "y1"
    simp only [addU]
    refine ⟨by decide, by decide, by decide, by decide, by decide, by decide, by decide, ?_⟩
    refine loop_inv _ (fun i σ G4 => ∃ s9, σ = [s0, s1, some (rowsU k r b t e), some (.ref a), s4, s5, s6, s7, s8, s9, s10, some (.int m), some (.tup [.int 2, .str nm, .tup [.str (S [108, 101, 110, 100]), .int m, .int 20, .int 50]]), some (rowsU k r b t p), some (.ref l)] ∧ G4 = G3) ⟨s9, rfl, rfl⟩ (fun _ _ _ _ _ => trivial) (fun i x σ G4 hx hP nx2 hnx2 => ?_) (fun σ G4 hP => ?_)
    · obtain ⟨s9, rfl, rfl⟩ := hP
      have hx' : ∃ h : Int, 0 ≤ h ∧ h ≤ 1000000000 ∧ x = .int h := by
        have := List.mem_of_getElem? hx
        simp only [List.mem_cons, List.not_mem_nil, or_false] at this
        rcases this with rfl | rfl | rfl | rfl | rfl | rfl
        all_goals exact ⟨_, by decide, by decide, rfl⟩
      obtain ⟨hh, hh0, hh1, rfl⟩ := hx'
      simp only [gU, List.set_cons_succ, List.set_cons_zero]
      refine w_cons ?_
      walk_at "y1"
      refine ix_t (atI_nat (j := 3) rfl) (ix_l ((A2.mono s3).t) at0 (ix_t (atI_nat (j := 0) rfl) ?_))
      rw [F.right.1, F.right.2]
      refine ⟨rfl, l, k, r, b, t, p, ks, rs, bs, ts, [⟨2, nm, .lend m 20 50⟩], nm, hh, rfl, hL, (A2.mono s3).t, s3 _ _ gp, (by decide : (1 : Nat) ≤ 100), by omega, hT.2.2, ⟨_, by rw [ets]; exact List.mem_cons_self, rfl⟩, one_ev hm, hh0, hh1, ?_⟩
      simp only [Bool.not_true, Bool.false_eq_true, if_false]
      exact w_go (hnx2 _ _ ⟨_, rfl, rfl⟩)
    · obtain ⟨s9, rfl, rfl⟩ := hP
      exact w_go (hnx _ _ ⟨_, _, _, _, _, rfl, (s1'.trans sp).trans s3⟩)
  · obtain ⟨s9, s11, s12, s13, s14, rfl, s1'⟩ := hP
    exact w_go (w_law7 F (sG.trans s1') (hA.mono s1') (A.mono s1') q)
/-- hour by hour, thing by thing -/
theorem w_law5 {Γ : Gm} {E : XS} {G G1 : Gp} {Q : UK} {a k r b t e H : Addr} {ks rs bs ts : List U} {evs : List Ev} {hs : List Int} {s0 s1 s5 s6 s7 s8 s9 s10 s11 s12 s13 s14 : Option U} (F : Fns Γ) (sG : Sub G G1) (hA : IsArc G1 a ks rs bs ts (evs.map Ev.u)) (A : ArcR G1 k r b t e ks rs bs ts evs) (gH : G1 H = some (.lst (hs.map U.int))) (hh : ∀ x ∈ hs, 0 ≤ x ∧ x ≤ 1000000000) (q : Q (.bl true) G) :
    wpSs Γ E ir_law_5 (DF Q) [s0, s1, some (rowsU k r b t e), some (.ref a), some (.ref H), s5, s6, s7, s8, s9, s10, s11, s12, s13, s14] G1 := by
  have hT := A.ts
  refine w_cons ?_
  walk_at "y1"
  refine seq_l gH ?_
  refine loop_inv _ (fun i σ G' => ∃ s9 s10, σ = [s0, s1, some (rowsU k r b t e), some (.ref a), some (.ref H), s5, s6, s7, s8, s9, s10, s11, s12, s13, s14] ∧ G' = G1) ⟨s9, s10, rfl, rfl⟩ (fun i σ G' _ hP => by obtain ⟨_, _, _, rfl⟩ := hP; exact lsG_of gH) (fun i x σ G' hx hP nx hnx => ?_) (fun σ G' hP => ?_)
  · obtain ⟨s9, s10, rfl, rfl⟩ := hP
    rw [List.getElem?_map, Option.map_eq_some_iff] at hx
    obtain ⟨h, hhm, rfl⟩ := hx
    have hb := hh h (List.mem_of_getElem? hhm)
    simp only [gU, List.set_cons_succ, List.set_cons_zero]
    refine w_cons ?_
    walk_at "y1"
    refine ix_t (atI_nat (j := 3) rfl) (seq_l A.t ?_)
    refine loop_inv _ (fun i σ G4 => ∃ s10, σ = [s0, s1, some (rowsU k r b t e), some (.ref a), some (.ref H), s5, s6, s7, s8, some (.int h), s10, s11, s12, s13, s14] ∧ G4 = G') ⟨s10, rfl, rfl⟩ (fun i σ G4 _ hP => by obtain ⟨_, _, rfl⟩ := hP; exact lsG_of A.t) (fun i x σ G4 hx hP nx2 hnx2 => ?_) (fun σ G4 hP => ?_)
    · obtain ⟨s10, rfl, rfl⟩ := hP
      have hxm := List.mem_of_getElem? hx
      obtain ⟨nm, hnm, y, rfl⟩ := isTh_nm (hT.2.2 x hxm)
      simp only [gU, List.set_cons_succ, List.set_cons_zero]
      refine w_cons ?_
      walk_at "y1"
      refine ix_t (atI_nat (j := 0) rfl) ?_
      rw [F.right.1, F.right.2]
      refine ⟨rfl, a, k, r, b, t, e, ks, rs, bs, ts, evs, nm, h, rfl, hA, A.t, A.e, by have := A.evs.2; omega, by omega, hT.2.2, ⟨_, hxm, hnm⟩, A.evs.1, hb.1, hb.2, ?_⟩
      simp only [Bool.not_true, Bool.false_eq_true, if_false]
      exact w_go (hnx2 _ _ ⟨_, rfl, rfl⟩)
    · obtain ⟨s10, rfl, rfl⟩ := hP
      exact w_go (hnx _ _ ⟨_, _, rfl, rfl⟩)
  · obtain ⟨s9, s10, rfl, rfl⟩ := hP
    exact w_go (w_law6 F sG hA A q)
end Y

namespace Y
open PySem PySem.Spec PyProof.Rows L2
local macro_rules | `(tactic| walk_at "y1") => `(tactic| simp only [wpS, wpE, wpEs, wpO, wpC, wpI, binU, cmpU, intU, isB, partU, gU, gsU, startU, DF, List.map_cons, List.map_nil, List.length_cons, List.length_nil, List.cons_append, List.nil_append, List.replicate, List.getElem?_cons_zero, List.getElem?_cons_succ, List.set_cons_zero, List.set_cons_succ, true_and, and_true, if_true, Bool.false_eq_true, if_false, Nat.reduceAdd, Nat.reduceSub, w_nil])
theorem w_law3 {Γ : Gm} {E : XS} {G G1 : Gp} {Q : UK} {ns : List Int} {a k r b t e : Addr} {ks rs bs ts : List U} {evs : List Ev} {s1 s4 s5 s6 s7 s8 s9 s10 s11 s12 s13 s14 : Option U} (F : Fns Γ) (hn : ns.length ≤ 63) (sG : Sub G G1) (hA : IsArc G1 a ks rs bs ts (evs.map Ev.u)) (A : ArcR G1 k r b t e ks rs bs ts evs) (q : Q (.bl true) G) :
    wpSs Γ E ir_law_3 (DF Q) [some (.rl (ns.map U.int)), s1, some (rowsU k r b t e), some (.ref a), s4, s5, s6, s7, s8, s9, s10, s11, s12, s13, s14] G1 := by
  refine w_cons ?_
  walk_at "y1"
  refine ⟨by decide, by decide, fun H nH => w_go (w_cons ?_)⟩
  have sH := Sub.put (o := .lst [.int 0, .int 1, .int ((10 : Int) ^ (9 : Int).toNat)]) nH
  walk_at "y1"
  simp only [slcU]
  intro p1 n1
  obtain ⟨cs, hcs, hcl⟩ : ∃ cs : List Int, cutU (ns.map U.int) none (some 30) = cs.map U.int ∧ cs.length ≤ 63 := by
    unfold cutU
    rw [← List.map_drop, ← List.map_take]
    refine ⟨_, rfl, ?_⟩
    rw [List.length_take, List.length_drop]
    omega
  rw [hcs]
  refine ⟨by decide, fun p2 n2 => add_l (put_at put_same n2) put_same (by rw [List.length_map]; exact Nat.le_trans (Nat.add_le_add_right hcl 1) (by decide)) fun L nL => ?_⟩
  have e1 : cs.map U.int ++ [.int 2] = (cs ++ [2]).map U.int := by rw [List.map_append]; rfl
  rw [e1]
  refine enm_l put_same ?_
  have s1L := (Sub.put (o := .lst (cs.map U.int)) n1).trans ((Sub.put (o := .lst [.int 2]) n2).trans (Sub.put (o := .lst ((cs ++ [2]).map U.int)) nL))
  have nHG : G1 H = none := nH
  have nLH : L ≠ H := fun z => by
    subst z
    have := ((Sub.put (o := .lst (cs.map U.int)) n1).trans (Sub.put (o := .lst [.int 2]) n2)) _ _ (put_same (G := G1) (a := L) (o := .lst [.int 0, .int 1, .int ((10 : Int) ^ (9 : Int).toNat)]))
    rw [this] at nL
    cases nL
  refine loop_inv _ (fun i σ G' => ∃ s5 s6 s7 s8 hs, σ = [some (.rl (ns.map U.int)), s1, some (rowsU k r b t e), some (.ref a), some (.ref H), s5, s6, s7, s8, s9, s10, s11, s12, s13, s14] ∧ Sub G1 G' ∧ G' H = some (.lst ((hs : List Int).map U.int)) ∧ G' L = some (.lst ((cs ++ [2]).map U.int)) ∧ (∀ x ∈ hs, 0 ≤ x ∧ x ≤ 1000000000) ∧ hs.length ≤ 3 + i)
    ⟨s5, s6, s7, s8, [0, 1, 1000000000], rfl, sH.trans s1L, s1L _ _ put_same, put_same, ?_, by simp⟩ (fun i σ G' _ hP => ?_) (fun i x σ G' hx hP nx hnx => ?_) (fun σ G' hP => ?_)
  · intro x hx
    simp only [List.mem_cons, List.not_mem_nil, or_false] at hx
    rcases hx with rfl | rfl | rfl <;> decide
  · obtain ⟨_, _, _, _, _, _, _, _, e, _⟩ := hP
    exact lsG_of e
  · obtain ⟨s5, s6, s7, s8, hs, rfl, sG', gH, gL, hb, hl⟩ := hP
    have A' := A.mono sG'
    rw [enU_get, List.getElem?_map, Option.map_map, Option.map_eq_some_iff] at hx
    obtain ⟨c, hc, rfl⟩ := hx
    have hi : i < (cs ++ [2]).length := by
      by_cases hi : i < (cs ++ [2]).length
      · exact hi
      · rw [List.getElem?_eq_none (by omega)] at hc; cases hc
    rw [List.length_append, List.length_singleton] at hi
    simp only [Function.comp, gU, gsU, List.set_cons_succ, List.set_cons_zero]
    refine w_cons ?_
    walk_at "y1"
    simp only [addU]
    rw [F.mixed.1, F.mixed.2]
    refine ⟨rfl, c, _, rfl, by omega, by omega, w_go (w_cons ?_)⟩
    obtain ⟨nu, hnu⟩ : ∃ nu, mixI c (((0 + i : Nat) : Int) + 70) = nu := ⟨_, rfl⟩
    rw [hnu]
    walk_at "y1"
    refine ix_t (atI_nat (j := 4) rfl) (seq_l A'.e fun D nD => ?_)
    have neD : e ≠ D := Ne.symm (ne_of A'.e nD)
    refine lc_map (fun u => match u with | .tup (x :: _) => x | _ => .non) _ (fun l => by rw [put_ne neD]; exact lsG_of A'.e) (fun x hx l K hK => ?_) (by rw [List.length_map]; exact Nat.le_trans A.evs.2 (by decide)) ?_
    · obtain ⟨ev, _, rfl⟩ := List.mem_map.mp hx
      simp only [wipeU, List.set_cons_succ, List.set_cons_zero, List.getElem?_cons_succ, List.getElem?_cons_zero]
      exact ix_t (atI_nat (j := 0) rfl) hK
    have em : (evs.map Ev.u).map (fun u => match u with | .tup (x :: _) => x | _ => .non) = (evs.map Ev.at_).map U.int := by
      rw [List.map_map, List.map_map]
      rfl
    rw [em]
    refine ⟨dok (by decide) (by decide), by decide, by decide, by decide, fun p3 n3 => add_l (put_at put_same n3) put_same (by rw [List.length_map, List.length_map]; exact Nat.le_trans (Nat.add_le_add_right A.evs.2 1) (by decide)) fun N nN => ?_⟩
    have sN := (Sub.put (o := .lst ((evs.map Ev.at_).map U.int)) nD).trans ((Sub.put (o := .lst [.int (nu / 40 % (10 : Int) ^ (9 : Int).toNat)]) n3).trans (Sub.put (o := .lst ((evs.map Ev.at_).map U.int ++ [.int (nu / 40 % (10 : Int) ^ (9 : Int).toNat)])) nN))
    have e4 : (evs.map Ev.at_).map U.int ++ [U.int (nu / 40 % (10 : Int) ^ (9 : Int).toNat)] = (evs.map Ev.at_ ++ [nu / 40 % (10 : Int) ^ (9 : Int).toNat]).map U.int := by rw [List.map_append]; rfl
    obtain ⟨near, hnear⟩ : ∃ near, evs.map Ev.at_ ++ [nu / 40 % (10 : Int) ^ (9 : Int).toNat] = near := ⟨_, rfl⟩
    have nl : (0 : Int) < ((near.map U.int).length : Int) := by rw [List.length_map, ← hnear, List.length_append, List.length_singleton]; omega
    rw [e4, hnear] at sN ⊢
    obtain ⟨G2, hG2⟩ : ∃ G2, put (put (put G' D (.lst ((evs.map Ev.at_).map U.int))) p3 (.lst [.int (nu / 40 % (10 : Int) ^ (9 : Int).toNat)])) N (.lst (near.map U.int)) = G2 := ⟨_, rfl⟩
    have gN : G2 N = some (.lst (near.map U.int)) := by rw [← hG2]; exact put_same
    rw [hG2] at sN ⊢
    refine w_go (w_cons ?_)
    walk_at "y1"
    refine ⟨tm_app (sN _ _ gH), by decide, bi_len gN ⟨nl, ?_⟩⟩
    refine pick gN (mod_nn _ nl).1 (mod_nn _ nl).2 fun x hx => ?_
    obtain ⟨y, _, rfl⟩ := List.mem_map.mp hx
    simp only [addU]
    refine ⟨dok (by decide) (by decide), by decide, bi_min (bi_max ?_)⟩
    obtain ⟨v, hv⟩ : ∃ v, (if (if y + nu / 50 % 5 - 2 < (10 : Int) ^ (9 : Int).toNat then y + nu / 50 % 5 - 2 else (10 : Int) ^ (9 : Int).toNat) > 0 then (if y + nu / 50 % 5 - 2 < (10 : Int) ^ (9 : Int).toNat then y + nu / 50 % 5 - 2 else (10 : Int) ^ (9 : Int).toNat) else 0) = v := ⟨_, rfl⟩
    have hvb : 0 ≤ v ∧ v ≤ 1000000000 := by
      rw [← hv, show (10 : Int) ^ (9 : Int).toNat = 1000000000 from rfl]
      split <;> split <;> omega
    rw [hv]
    refine bm_app (sN _ _ gH) (by rw [List.length_map]; exact Nat.lt_of_le_of_lt (show hs.length ≤ 100 by omega) (by decide)) (w_go (hnx _ _ ⟨_, _, _, _, hs ++ [v], rfl, ?_, ?_, ?_, ?_, ?_⟩))
    · intro x o hx
      rw [put_ne]
      · exact sN _ _ (sG' x o hx)
      · intro z; subst z; rw [nHG] at hx; cases hx
    · rw [put_same, List.map_append]; rfl
    · rw [put_ne nLH]; exact sN _ _ gL
    · intro x hx
      rcases List.mem_append.mp hx with hx | hx
      · exact hb x hx
      · rw [List.mem_singleton.mp hx]; exact hvb
    · rw [List.length_append, List.length_singleton]; omega
  · obtain ⟨s5, s6, s7, s8, hs, rfl, sG', gH, gL, hb, hl⟩ := hP
    exact w_go (w_law5 F (sG.trans sG') (hA.mono sG') (A.mono sG') gH hb q)
def sp_law : SpU := fun us G Q _ => ∃ ns, us = [.rl ((ns : List Int).map U.int)] ∧ ns.length ≤ 63 ∧ Q (.bl true) G
theorem w_law {Γ : Gm} {E : XS} {us : List U} {G : Gp} {Q : UK} {X : XU} (F : Fns Γ) (h : sp_law us G Q X) : wpSs Γ E ir_law (DF Q) (startU ce_law.N us) G := by
  obtain ⟨ns, rfl, hn, q⟩ := h
  unfold ce_law
  refine w_cons ?_
  walk_at "y1"
  rw [F.mixed.1, F.mixed.2, F.cell.1, F.cell.2]
  refine ⟨by decide, by decide, fun p np => ⟨rfl, ns, 0, rfl, hn, rfl, _, 4, rfl, by decide, by decide, by decide, ?_⟩⟩
  refine pick put_same (mod_nn _ (by decide)).1 (mod_nn _ (by decide)).2 fun x hx => ?_
  have hx' : ∃ m : Int, 0 < m ∧ x = .int m := by
    simp only [List.mem_cons, List.not_mem_nil, or_false] at hx
    rcases hx with rfl | rfl | rfl
    all_goals exact ⟨_, by decide, rfl⟩
  obtain ⟨gap, hg, rfl⟩ := hx'
  refine w_sub (Sub.put np) (w_cons ?_)
  walk_at "y1"
  rw [F.arc.1, F.arc.2]
  refine ⟨rfl, ns, gap, rfl, hn, hg, fun G1 k r b t e ks rs bs ts evs s1 A => w_go (w_cons ?_)⟩
  walk_at "y1"
  refine ix_t (atI_nat (j := 0) rfl) (ix_t (atI_nat (j := 1) rfl) (ix_t (atI_nat (j := 2) rfl) (ix_t (atI_nat (j := 3) rfl) (ix_t (atI_nat (j := 4) rfl) ?_))))
  rw [F.init.1, F.init.2]
  refine ⟨rfl, fun a na => ⟨a, k, r, b, t, e, ks, rs, bs, ts, _, rfl, put_same, put_at A.k na, put_at A.r na, put_at A.b na, put_at A.t na, put_at A.e na, fun G3 z1 hL => ⟨rfl, ?_⟩⟩⟩
  have s3 : Sub G1 G3 := fun x o hx => z1 x o (fun z => by subst z; rw [na] at hx; cases hx) (put_at hx na)
  exact w_go (w_law3 F hn (s1.trans s3) hL (A.mono s3) q)
end Y

namespace Y
open PySem PySem.Spec PyProof.Rows L2
def noSp : SpU := fun _ _ _ _ => False
def spL (al cu : SpU) : List SpU := [sp_among, sp_need, sp_row_of, sp_moment, sp_thing_row, sp_stretches, sp_mixed, sp_cell, al, sp_points, sp_pure2 4, sp_pure2 4, sp_deed, sp_archive, sp_state, sp_cuts, sp_due, sp_right, sp_law, sp_pinit, cu, sp_done, sp_ainit, sp_told]
def gm (al cu : SpU) : Gm := { fn := fun i => (spL al cu).getD i noSp, ar := fun i => [3, 1, 2, 1, 2, 3, 2, 2, 2, 3, 2, 2, 2, 3, 3, 2, 3, 4, 1, 3, 2, 3, 6, 1].getD i 0 }
def tbOf (l : List Addr) : Tb := ⟨fun c => l.getD c 0, nmL names, nmL_inj (by decide +kernel) (by decide +kernel)⟩
structure Top0 (T : Tb) (K : PySem.W.Frag) (mg : Str → Option Value) : Prop where
  nm : T.nm = nmL names
  d_is_among : HasDef K mg "is_among" st_is_among
  d_need : HasDef K mg "need" st_need
  d_row_of : HasDef K mg "row_of" st_row_of
  d_need_moment : HasDef K mg "need_moment" st_need_moment
  d_thing_row : HasDef K mg "thing_row" st_thing_row
  d_stretches : HasDef K mg "stretches" st_stretches
  d__law_mixed : HasDef K mg "_law_mixed" st__law_mixed
  d__law_cell_at : HasDef K mg "_law_cell_at" st__law_cell_at
  d__law_alike : HasDef K mg "_law_alike" st__law_alike
  d__law_points : HasDef K mg "_law_points" st__law_points
  d__law_kind : HasDef K mg "_law_kind" st__law_kind
  d__law_room : HasDef K mg "_law_room" st__law_room
  d__law_deed : HasDef K mg "_law_deed" st__law_deed
  d__law_archive : HasDef K mg "_law_archive" st__law_archive
  d__law_state : HasDef K mg "_law_state" st__law_state
  d__law_cuts : HasDef K mg "_law_cuts" st__law_cuts
  d__law_due : HasDef K mg "_law_due" st__law_due
  d__law_right : HasDef K mg "_law_right" st__law_right
  d_law : HasDef K mg "law" st_law
  d_Path___init__ : HasIni T K 0 "__init__" "Path.__init__" st_Path___init__
  d_Path_cut_at : HasMth T K 0 12 "cut_at" "Path.cut_at" st_Path_cut_at
  d_Path_event_done : HasMth T K 0 13 "event_done" "Path.event_done" st_Path_event_done
  d_Archive___init__ : HasIni T K 1 "__init__" "Archive.__init__" st_Archive___init__
  d_Archive_told : HasMth T K 1 14 "told" "Archive.told" st_Archive_told
  g_Path : Cls K (T.cA 0)
  g_Archive : Cls K (T.cA 1)
  n_0_6 : NoAttr K (T.cA 0) (T.nm 6)
  n_0_0 : NoAttr K (T.cA 0) (T.nm 0)
  n_0_1 : NoAttr K (T.cA 0) (T.nm 1)
  n_0_2 : NoAttr K (T.cA 0) (T.nm 2)
  n_0_3 : NoAttr K (T.cA 0) (T.nm 3)
  n_0_4 : NoAttr K (T.cA 0) (T.nm 4)
  n_0_5 : NoAttr K (T.cA 0) (T.nm 5)
  n_1_7 : NoAttr K (T.cA 1) (T.nm 7)
  n_1_8 : NoAttr K (T.cA 1) (T.nm 8)
  n_1_9 : NoAttr K (T.cA 1) (T.nm 9)
  n_1_10 : NoAttr K (T.cA 1) (T.nm 10)
  n_1_11 : NoAttr K (T.cA 1) (T.nm 11)
  c_LAST_HOUR : ∃ v val, mg "LAST_HOUR" = some val ∧ L2.RelV v val ∧ ∀ H, RU T K H (.int 1000000000) v
  b_isinstance : mg "isinstance" = none
  b_bool : mg "bool" = none
  b_int : mg "int" = none
  b_str : mg "str" = none
  b_len : mg "len" = none
  b_list : mg "list" = none
  b_tuple : mg "tuple" = none
  b_all : mg "all" = none
  b_zip : mg "zip" = none
  b_range : mg "range" = none
  b_sorted : mg "sorted" = none
  b_enumerate : mg "enumerate" = none
  b_dict : mg "dict" = none
  b_min : mg "min" = none
  b_max : mg "max" = none
structure Top (T : Tb) (K : PySem.W.Frag) (mg : Str → Option Value) : Prop extends Top0 T K mg where
  k_Path : mg "Path" = some (.ref (T.cA 0))
  k_Archive : mg "Archive" = some (.ref (T.cA 1))
section
variable {T : Tb} {P : Program} {w : World} {K : PySem.W.Frag} {mg : Str → Option Value} {base : Heap}
theorem a_is_among (t : Top T K mg) : FnA T P w K mg base 1 "is_among" 3 (sp_among) :=
  def_ok t.d_is_among sc_is_among hc_is_among (fun _ _ _ _ _ _ us hl => match us, hl with | [_, _, _], _ => rfl) (mf_mk (Γ := (gm (sp_alike 6) (sp_cut true))) all_nil all_nil (all_cons t.b_isinstance (all_cons t.b_bool (all_cons t.b_int all_nil))) all_nil all_nil all_nil) fun us G Q E _ h => w_among h
theorem a_need (t : Top T K mg) : FnA T P w K mg base 1 "need" 1 (sp_need) :=
  def_ok t.d_need sc_need hc_need (fun _ _ _ _ _ _ us hl => match us, hl with | [_], _ => rfl) (mf_mk (Γ := (gm (sp_alike 6) (sp_cut true))) all_nil all_nil all_nil all_nil all_nil all_nil) fun us G Q E _ h => w_need h
theorem a_row_of (t : Top T K mg) : FnA T P w K mg base 1 "row_of" 2 (sp_row_of) :=
  def_ok t.d_row_of sc_row_of hc_row_of (fun _ _ _ _ _ _ us hl => match us, hl with | [_, _], _ => rfl) (mf_mk (Γ := (gm (sp_alike 6) (sp_cut true))) all_nil all_nil (all_cons t.b_isinstance (all_cons t.b_str all_nil)) all_nil all_nil all_nil) fun us G Q E _ h => w_row_of h
theorem a__law_mixed (t : Top T K mg) : FnA T P w K mg base 1 "_law_mixed" 2 (sp_mixed) :=
  def_ok t.d__law_mixed sc__law_mixed hc__law_mixed (fun _ _ _ _ _ _ us hl => match us, hl with | [_, _], _ => rfl) (mf_mk (Γ := (gm (sp_alike 6) (sp_cut true))) all_nil all_nil all_nil all_nil all_nil all_nil) fun us G Q E _ h => w_mixed h
theorem a__law_cell_at (t : Top T K mg) : FnA T P w K mg base 1 "_law_cell_at" 2 (sp_cell) :=
  def_ok t.d__law_cell_at sc__law_cell_at hc__law_cell_at (fun _ _ _ _ _ _ us hl => match us, hl with | [_, _], _ => rfl) (mf_mk (Γ := (gm (sp_alike 6) (sp_cut true))) all_nil all_nil (all_cons t.b_len all_nil) all_nil all_nil all_nil) fun us G Q E _ h => w_cell h
theorem a__law_deed (t : Top T K mg) : FnA T P w K mg base 1 "_law_deed" 2 (sp_deed) :=
  def_ok t.d__law_deed sc__law_deed hc__law_deed (fun _ _ _ _ _ _ us hl => match us, hl with | [_, _], _ => rfl) (mf_mk (Γ := (gm (sp_alike 6) (sp_cut true))) all_nil all_nil all_nil all_nil all_nil all_nil) fun us G Q E _ h => w_deed h
theorem a__law_state (t : Top T K mg) : FnA T P w K mg base 1 "_law_state" 3 (sp_state) :=
  def_ok t.d__law_state sc__law_state hc__law_state (fun _ _ _ _ _ _ us hl => match us, hl with | [_, _, _], _ => rfl) (mf_mk (Γ := (gm (sp_alike 6) (sp_cut true))) all_nil all_nil all_nil all_nil all_nil all_nil) fun us G Q E _ h => w_state h
theorem a__law_cuts (t : Top T K mg) : FnA T P w K mg base 1 "_law_cuts" 2 (sp_cuts) :=
  def_ok t.d__law_cuts sc__law_cuts hc__law_cuts (fun _ _ _ _ _ _ us hl => match us, hl with | [_, _], _ => rfl) (mf_mk (Γ := (gm (sp_alike 6) (sp_cut true))) all_nil all_nil (all_cons t.b_sorted (all_cons t.b_list all_nil)) all_nil all_nil all_nil) fun us G Q E _ h => w_cuts h
theorem a_Path___init__ (t : Top T K mg) : NewN T P w K mg base (1 + 1) 0 3 (sp_pinit) :=
  ini_ok t.d_Path___init__ sc_Path___init__ hc_Path___init__ (fun _ _ _ _ _ _ us hl => match us, hl with | [_, _, _], _ => rfl) (mf_mk (Γ := (gm (sp_alike 6) (sp_cut true))) all_nil all_nil all_nil all_nil (all_cons ⟨by rw [t.nm]; rfl, (all_cons ⟨t.g_Path, t.n_0_0⟩ all_nil)⟩ (all_cons ⟨by rw [t.nm]; rfl, (all_cons ⟨t.g_Path, t.n_0_1⟩ all_nil)⟩ (all_cons ⟨by rw [t.nm]; rfl, (all_cons ⟨t.g_Path, t.n_0_2⟩ all_nil)⟩ (all_cons ⟨by rw [t.nm]; rfl, (all_cons ⟨t.g_Path, t.n_0_3⟩ all_nil)⟩ (all_cons ⟨by rw [t.nm]; rfl, (all_cons ⟨t.g_Path, t.n_0_4⟩ all_nil)⟩ (all_cons ⟨by rw [t.nm]; rfl, (all_cons ⟨t.g_Path, t.n_0_5⟩ all_nil)⟩ (all_cons ⟨by rw [t.nm]; rfl, (all_cons ⟨t.g_Path, t.n_0_6⟩ all_nil)⟩ all_nil))))))) all_nil) fun us G Q E _ h => w_pinit h
theorem a_Archive___init__ (t : Top T K mg) : NewN T P w K mg base (1 + 1) 1 6 (sp_ainit) :=
  ini_ok t.d_Archive___init__ sc_Archive___init__ hc_Archive___init__ (fun _ _ _ _ _ _ us hl => match us, hl with | [_, _, _, _, _, _], _ => rfl) (mf_mk (Γ := (gm (sp_alike 6) (sp_cut true))) all_nil all_nil (all_cons t.b_list all_nil) all_nil (all_cons ⟨by rw [t.nm]; rfl, (all_cons ⟨t.g_Archive, t.n_1_7⟩ all_nil)⟩ (all_cons ⟨by rw [t.nm]; rfl, (all_cons ⟨t.g_Archive, t.n_1_8⟩ all_nil)⟩ (all_cons ⟨by rw [t.nm]; rfl, (all_cons ⟨t.g_Archive, t.n_1_9⟩ all_nil)⟩ (all_cons ⟨by rw [t.nm]; rfl, (all_cons ⟨t.g_Archive, t.n_1_10⟩ all_nil)⟩ (all_cons ⟨by rw [t.nm]; rfl, (all_cons ⟨t.g_Archive, t.n_1_11⟩ all_nil)⟩ all_nil))))) all_nil) fun us G Q E _ h => w_ainit h
theorem a_Archive_told (t : Top T K mg) : MthN T P w K mg base 1 1 14 1 (sp_told) :=
  mth_ok t.d_Archive_told sc_Archive_told hc_Archive_told (fun _ _ _ _ _ _ us hl => match us, hl with | [_], _ => rfl) (mf_mk (Γ := (gm (sp_alike 6) (sp_cut true))) all_nil all_nil (all_cons t.b_list all_nil) all_nil (all_cons ⟨by rw [t.nm]; rfl, (all_cons ⟨t.g_Archive, t.n_1_9⟩ all_nil)⟩ (all_cons ⟨by rw [t.nm]; rfl, (all_cons ⟨t.g_Archive, t.n_1_8⟩ all_nil)⟩ (all_cons ⟨by rw [t.nm]; rfl, (all_cons ⟨t.g_Archive, t.n_1_7⟩ all_nil)⟩ (all_cons ⟨by rw [t.nm]; rfl, (all_cons ⟨t.g_Archive, t.n_1_11⟩ all_nil)⟩ (all_cons ⟨by rw [t.nm]; rfl, (all_cons ⟨t.g_Archive, t.n_1_10⟩ all_nil)⟩ all_nil))))) all_nil) fun us G Q E _ h => w_told h
theorem a_need_moment (t : Top T K mg) : FnA T P w K mg base 2 "need_moment" 1 (sp_moment) :=
  def_ok t.d_need_moment sc_need_moment hc_need_moment (fun _ _ _ _ _ _ us hl => match us, hl with | [_], _ => rfl) (mf_mk (Γ := (gm (sp_alike 6) (sp_cut true))) (all_cons (((a_need t)).mono (by first | exact Nat.le_refl _ | decide)) (all_cons (((a_is_among t)).mono (by first | exact Nat.le_refl _ | decide)) all_nil)) (all_cons t.c_LAST_HOUR all_nil) all_nil all_nil all_nil all_nil) fun us G Q E _ h => w_moment rfl rfl rfl rfl h
theorem a_thing_row (t : Top T K mg) : FnA T P w K mg base 2 "thing_row" 2 (sp_thing_row) :=
  def_ok t.d_thing_row sc_thing_row hc_thing_row (fun _ _ _ _ _ _ us hl => match us, hl with | [_, _], _ => rfl) (mf_mk (Γ := (gm (sp_alike 6) (sp_cut true))) (all_cons (((a_row_of t)).mono (by first | exact Nat.le_refl _ | decide)) all_nil) all_nil all_nil all_nil all_nil (all_cons ⟨by rw [t.nm]; rfl, (all_cons (((a_Archive_told t)).mono (by first | exact Nat.le_refl _ | decide)) all_nil)⟩ all_nil)) fun us G Q E _ h => w_thing_row rfl rfl rfl rfl h
theorem a__law_points (t : Top T K mg) : FnA T P w K mg base 2 "_law_points" 3 (sp_points) :=
  def_ok t.d__law_points sc__law_points hc__law_points (fun _ _ _ _ _ _ us hl => match us, hl with | [_, _, _], _ => rfl) (mf_mk (Γ := (gm (sp_alike 6) (sp_cut true))) (all_cons (((a__law_mixed t)).mono (by first | exact Nat.le_refl _ | decide)) all_nil) all_nil (all_cons t.b_range (all_cons t.b_tuple (all_cons t.b_sorted all_nil))) all_nil all_nil all_nil) fun us G Q E _ h => w_points rfl rfl h
theorem a__law_room (t : Top T K mg) : FnA T P w K mg base 2 "_law_room" 2 (sp_pure2 4) :=
  def_ok t.d__law_room sc__law_room hc__law_room (fun _ _ _ _ _ _ us hl => match us, hl with | [_, _], _ => rfl) (mf_mk (Γ := (gm (sp_alike 6) (sp_cut true))) (all_cons (((a__law_mixed t)).mono (by first | exact Nat.le_refl _ | decide)) all_nil) all_nil (all_cons t.b_range (all_cons t.b_sorted (all_cons t.b_tuple all_nil))) all_nil all_nil all_nil) fun us G Q E _ h => w_room rfl rfl h
theorem a__law_due (t : Top T K mg) : FnA T P w K mg base 2 "_law_due" 3 (sp_due) :=
  def_ok t.d__law_due sc__law_due hc__law_due (fun _ _ _ _ _ _ us hl => match us, hl with | [_, _, _], _ => rfl) (mf_mk (Γ := (gm (sp_alike 6) (sp_cut true))) (all_cons (((a__law_cuts t)).mono (by first | exact Nat.le_refl _ | decide)) (all_cons (((a__law_state t)).mono (by first | exact Nat.le_refl _ | decide)) all_nil)) all_nil (all_cons t.b_zip all_nil) all_nil all_nil all_nil) fun us G Q E _ h => w_due rfl rfl rfl rfl h
theorem cu_0 (t : Top T K mg) : MthN T P w K mg base 0 0 12 2 noSp := mth_never t.d_Path_cut_at (fun us G Q E h => h) ["self", "hour"] (fun _ _ _ _ _ _ us hl => match us, hl with | [_, _], _ => rfl)
theorem cu_1 (t : Top T K mg) : MthN T P w K mg base 1 0 12 2 (sp_cut false) := mth_ok t.d_Path_cut_at sc_Path_cut_at hc_Path_cut_at (fun _ _ _ _ _ _ us hl => match us, hl with | [_, _], _ => rfl) (mf_mk (Γ := (gm (sp_alike 6) noSp)) all_nil all_nil all_nil all_nil (all_cons ⟨by rw [t.nm]; rfl, (all_cons ⟨t.g_Path, t.n_0_5⟩ all_nil)⟩ (all_cons ⟨by rw [t.nm]; rfl, (all_cons ⟨t.g_Path, t.n_0_2⟩ all_nil)⟩ (all_cons ⟨by rw [t.nm]; rfl, (all_cons ⟨t.g_Path, t.n_0_1⟩ all_nil)⟩ (all_cons ⟨by rw [t.nm]; rfl, (all_cons ⟨t.g_Path, t.n_0_0⟩ all_nil)⟩ (all_cons ⟨by rw [t.nm]; rfl, (all_cons ⟨t.g_Path, t.n_0_3⟩ all_nil)⟩ (all_cons ⟨by rw [t.nm]; rfl, (all_cons ⟨t.g_Path, t.n_0_6⟩ all_nil)⟩ (all_cons ⟨by rw [t.nm]; rfl, (all_cons ⟨t.g_Path, t.n_0_4⟩ all_nil)⟩ all_nil))))))) (all_cons ⟨by rw [t.nm]; rfl, (all_cons (((cu_0 t)).mono (by first | exact Nat.le_refl _ | decide)) all_nil)⟩ all_nil)) fun us G Q E _ h => w_cut false (fun z => (nomatch z)) rfl h
theorem a_Path_cut_at (t : Top T K mg) : MthN T P w K mg base 2 0 12 2 (sp_cut true) := mth_ok t.d_Path_cut_at sc_Path_cut_at hc_Path_cut_at (fun _ _ _ _ _ _ us hl => match us, hl with | [_, _], _ => rfl) (mf_mk (Γ := (gm (sp_alike 6) (sp_cut false))) all_nil all_nil all_nil all_nil (all_cons ⟨by rw [t.nm]; rfl, (all_cons ⟨t.g_Path, t.n_0_5⟩ all_nil)⟩ (all_cons ⟨by rw [t.nm]; rfl, (all_cons ⟨t.g_Path, t.n_0_2⟩ all_nil)⟩ (all_cons ⟨by rw [t.nm]; rfl, (all_cons ⟨t.g_Path, t.n_0_1⟩ all_nil)⟩ (all_cons ⟨by rw [t.nm]; rfl, (all_cons ⟨t.g_Path, t.n_0_0⟩ all_nil)⟩ (all_cons ⟨by rw [t.nm]; rfl, (all_cons ⟨t.g_Path, t.n_0_3⟩ all_nil)⟩ (all_cons ⟨by rw [t.nm]; rfl, (all_cons ⟨t.g_Path, t.n_0_6⟩ all_nil)⟩ (all_cons ⟨by rw [t.nm]; rfl, (all_cons ⟨t.g_Path, t.n_0_4⟩ all_nil)⟩ all_nil))))))) (all_cons ⟨by rw [t.nm]; rfl, (all_cons (((cu_1 t)).mono (by first | exact Nat.le_refl _ | decide)) all_nil)⟩ all_nil)) fun us G Q E _ h => w_cut true (fun _ => rfl) rfl h
theorem a__law_kind (t : Top T K mg) : FnA T P w K mg base 3 "_law_kind" 2 (sp_pure2 4) :=
  def_ok t.d__law_kind sc__law_kind hc__law_kind (fun _ _ _ _ _ _ us hl => match us, hl with | [_, _], _ => rfl) (mf_mk (Γ := (gm (sp_alike 6) (sp_cut true))) (all_cons (((a__law_points t)).mono (by first | exact Nat.le_refl _ | decide)) (all_cons (((a__law_mixed t)).mono (by first | exact Nat.le_refl _ | decide)) all_nil)) all_nil (all_cons t.b_range (all_cons t.b_len (all_cons t.b_tuple all_nil))) all_nil all_nil all_nil) fun us G Q E _ h => w_kind rfl rfl rfl rfl h
theorem a_Path_event_done (t : Top T K mg) : MthN T P w K mg base 3 0 13 3 (sp_done) :=
  mth_ok t.d_Path_event_done sc_Path_event_done hc_Path_event_done (fun _ _ _ _ _ _ us hl => match us, hl with | [_, _, _], _ => rfl) (mf_mk (Γ := (gm (sp_alike 6) (sp_cut true))) all_nil all_nil all_nil all_nil (all_cons ⟨by rw [t.nm]; rfl, (all_cons ⟨t.g_Path, t.n_0_4⟩ all_nil)⟩ (all_cons ⟨by rw [t.nm]; rfl, (all_cons ⟨t.g_Path, t.n_0_2⟩ all_nil)⟩ (all_cons ⟨by rw [t.nm]; rfl, (all_cons ⟨t.g_Path, t.n_0_5⟩ all_nil)⟩ (all_cons ⟨by rw [t.nm]; rfl, (all_cons ⟨t.g_Path, t.n_0_0⟩ all_nil)⟩ (all_cons ⟨by rw [t.nm]; rfl, (all_cons ⟨t.g_Path, t.n_0_1⟩ all_nil)⟩ all_nil))))) (all_cons ⟨by rw [t.nm]; rfl, (all_cons (((a_Path_cut_at t)).mono (by first | exact Nat.le_refl _ | decide)) all_nil)⟩ all_nil)) fun us G Q E _ h => w_done rfl rfl h
theorem a_stretches (t : Top T K mg) : FnA T P w K mg base 4 "stretches" 3 (sp_stretches) :=
  def_ok t.d_stretches sc_stretches hc_stretches (fun _ _ _ _ _ _ us hl => match us, hl with | [_, _, _], _ => rfl) (mf_mk (Γ := (gm (sp_alike 6) (sp_cut true))) (all_cons (((a_thing_row t)).mono (by first | exact Nat.le_refl _ | decide)) (all_cons (((a_need_moment t)).mono (by first | exact Nat.le_refl _ | decide)) all_nil)) all_nil all_nil (all_cons ⟨t.k_Path, ((a_Path___init__ t)).mono (by decide)⟩ all_nil) (all_cons ⟨by rw [t.nm]; rfl, (all_cons ⟨t.g_Path, t.n_0_6⟩ all_nil)⟩ all_nil) (all_cons ⟨by rw [t.nm]; rfl, (all_cons (((a_Archive_told t)).mono (by first | exact Nat.le_refl _ | decide)) all_nil)⟩ (all_cons ⟨by rw [t.nm]; rfl, (all_cons (((a_Path_event_done t)).mono (by first | exact Nat.le_refl _ | decide)) all_nil)⟩ (all_cons ⟨by rw [t.nm]; rfl, (all_cons (((a_Path_cut_at t)).mono (by first | exact Nat.le_refl _ | decide)) all_nil)⟩ all_nil)))) fun us G Q E _ h => w_stretches rfl rfl rfl rfl rfl rfl rfl rfl rfl rfl rfl rfl h
theorem a__law_archive (t : Top T K mg) : FnA T P w K mg base 4 "_law_archive" 3 (sp_archive) :=
  def_ok t.d__law_archive sc__law_archive hc__law_archive (fun _ _ _ _ _ _ us hl => match us, hl with | [_, _, _], _ => rfl) (mf_mk (Γ := (gm (sp_alike 6) (sp_cut true))) (all_cons (((a__law_mixed t)).mono (by first | exact Nat.le_refl _ | decide)) (all_cons (((a__law_cell_at t)).mono (by first | exact Nat.le_refl _ | decide)) (all_cons (((a__law_kind t)).mono (by first | exact Nat.le_refl _ | decide)) (all_cons (((a__law_room t)).mono (by first | exact Nat.le_refl _ | decide)) (all_cons (((a__law_deed t)).mono (by first | exact Nat.le_refl _ | decide)) all_nil))))) all_nil (all_cons t.b_range (all_cons t.b_enumerate (all_cons t.b_dict (all_cons t.b_min (all_cons t.b_len all_nil))))) all_nil all_nil all_nil) fun us G Q E _ h => w_archive rfl rfl rfl rfl rfl rfl rfl rfl rfl rfl h
theorem al_n (t : Top T K mg) : ∀ n, FnA T P w K mg base n "_law_alike" 2 (sp_alike n)
  | 0 => fn_never t.d__law_alike (fun us G Q E h => by obtain ⟨x, y, _, h, _⟩ := h; cases h) ["_law_found", "_law_due_here"] (fun _ _ _ _ _ _ us hl => match us, hl with | [_, _], _ => rfl)
  | n + 1 => def_ok t.d__law_alike sc__law_alike hc__law_alike (fun _ _ _ _ _ _ us hl => match us, hl with | [_, _], _ => rfl) (mf_mk (Γ := (gm (sp_alike n) (sp_cut true))) (all_cons (((al_n t n)).mono (by first | exact Nat.le_refl _ | decide)) all_nil) all_nil (all_cons t.b_isinstance (all_cons t.b_list (all_cons t.b_tuple (all_cons t.b_all (all_cons t.b_zip (all_cons t.b_len (all_cons t.b_bool all_nil))))))) all_nil all_nil all_nil) fun us G Q E _ h => w_alike n rfl rfl h
theorem a__law_alike (t : Top T K mg) : FnA T P w K mg base 6 "_law_alike" 2 (sp_alike 6) := al_n t 6
theorem a__law_right (t : Top T K mg) : FnA T P w K mg base 7 "_law_right" 4 (sp_right) :=
  def_ok t.d__law_right sc__law_right hc__law_right (fun _ _ _ _ _ _ us hl => match us, hl with | [_, _, _, _], _ => rfl) (mf_mk (Γ := (gm (sp_alike 6) (sp_cut true))) (all_cons (((a__law_due t)).mono (by first | exact Nat.le_refl _ | decide)) (all_cons (((a_stretches t)).mono (by first | exact Nat.le_refl _ | decide)) (all_cons (((a__law_alike t)).mono (by first | exact Nat.le_refl _ | decide)) all_nil))) all_nil (all_cons t.b_range (all_cons t.b_isinstance (all_cons t.b_list all_nil))) all_nil all_nil all_nil) fun us G Q E _ h => w_right rfl rfl rfl rfl rfl rfl h
theorem a_law {fa : Addr} (hfa : mg "law" = some (.ref fa)) (t : Top T K mg) : ∃ fd : FuncData, (∀ (s : Shared) (v : Value), BindsTo s fd ⟨[v], []⟩ [("_law_script", v)]) ∧ ∀ base : Heap, FnOk P w K mg base (L2.CX P w) 8 fa fd ["_law_script"] (lSp T K 1 sp_law) := by
  obtain ⟨f, fd, hm, F⟩ := t.d_law
  cases hfa.symm.trans hm
  refine ⟨fd, ?_, fun base => fn_u F sc_law hc_law (mf_mk (Γ := (gm (sp_alike 6) (sp_cut true))) (all_cons (((a__law_mixed t)).mono (by first | exact Nat.le_refl _ | decide)) (all_cons (((a__law_cell_at t)).mono (by first | exact Nat.le_refl _ | decide)) (all_cons (((a__law_archive t)).mono (by first | exact Nat.le_refl _ | decide)) (all_cons (((a__law_right t)).mono (by first | exact Nat.le_refl _ | decide)) (all_cons (((a__law_alike t)).mono (by first | exact Nat.le_refl _ | decide)) all_nil))))) all_nil (all_cons t.b_enumerate (all_cons t.b_max (all_cons t.b_min (all_cons t.b_len all_nil)))) (all_cons ⟨t.k_Archive, ((a_Archive___init__ t)).mono (by decide)⟩ all_nil) all_nil (all_cons ⟨by rw [t.nm]; rfl, (all_cons (((a_Archive_told t)).mono (by first | exact Nat.le_refl _ | decide)) all_nil)⟩ all_nil)) fun us G Q E _ h => w_law ⟨⟨rfl, rfl⟩, ⟨rfl, rfl⟩, ⟨rfl, rfl⟩, ⟨rfl, rfl⟩, ⟨rfl, rfl⟩, ⟨rfl, rfl⟩, ⟨rfl, rfl⟩⟩ h⟩
  obtain ⟨oc, od, kV, doc, pm, an, cdv, ct, osl, rfl, lk, hcd⟩ := F.ex
  exact fun s v => .of_eq rfl
end
theorem end_mk {P : Program} {w : World} {K : PySem.W.Frag} {mg : Str → Option Value} {h : Heap} {fa A0 A1 : Addr} (KX : K.In h) (hfa : mg "law" = some (.ref fa)) (q0 : mg "Path" = some (.ref A0)) (q1 : mg "Archive" = some (.ref A1)) (t : Top0 (tbOf [A0, A1]) K mg) : ∃ (T : Tb) (fd : FuncData), (∀ (s : Shared) (v : Value), BindsTo s fd ⟨[v], []⟩ [("_law_script", v)]) ∧ ∀ base : Heap, FnOk P w K mg base (L2.CX P w) 8 fa fd ["_law_script"] (lSp T K 1 sp_law) := ⟨_, a_law hfa ⟨t, q0, q1⟩⟩
end Y
open PySem PySem.W PyProof.Rows
set_option maxHeartbeats 0 in
theorem PySem.Challenge.cw_lastingly_k14_stretches_holds : PySem.Challenge.rw_lastingly_k14_stretches.Holds := by
  w_on; o_law; k_head; (case hw => w_witness2)
  k_fill
  refine Y.walk_y (l := PySem.Challenge.rw_lastingly_k14_stretches) (k := 8) (x := "_law_script") (sp := Y.sp_law) rfl rfl ⟨rfl, by decide, by decide⟩ (fun w h Y => PySem.W.kIn_of Y) ?F (fun ns hl => ⟨ns, rfl, hl, rfl⟩)
  case F =>
    intro w mg fa h KX G hmg
    replace hmg : mg "law" = some (.ref fa) := hmg
    refine' Y.end_mk KX hmg (PySem.W.mg_of KX G ?z1) (PySem.W.mg_of KX G ?z2) ⟨rfl, (Y.hd_mk KX G ?a3 ?l4 ?c5 ?k6), (Y.hd_mk KX G ?a7 ?l8 ?c9 ?k10), (Y.hd_mk KX G ?a11 ?l12 ?c13 ?k14), (Y.hd_mk KX G ?a15 ?l16 ?c17 ?k18), (Y.hd_mk KX G ?a19 ?l20 ?c21 ?k22), (Y.hd_mk KX G ?a23 ?l24 ?c25 ?k26), (Y.hd_mk KX G ?a27 ?l28 ?c29 ?k30), (Y.hd_mk KX G ?a31 ?l32 ?c33 ?k34), (Y.hd_mk KX G ?a35 ?l36 ?c37 ?k38), (Y.hd_mk KX G ?a39 ?l40 ?c41 ?k42), (Y.hd_mk KX G ?a43 ?l44 ?c45 ?k46), (Y.hd_mk KX G ?a47 ?l48 ?c49 ?k50), (Y.hd_mk KX G ?a51 ?l52 ?c53 ?k54), (Y.hd_mk KX G ?a55 ?l56 ?c57 ?k58), (Y.hd_mk KX G ?a59 ?l60 ?c61 ?k62), (Y.hd_mk KX G ?a63 ?l64 ?c65 ?k66), (Y.hd_mk KX G ?a67 ?l68 ?c69 ?k70), (Y.hd_mk KX G ?a71 ?l72 ?c73 ?k74), (Y.hd_mk KX G ?a75 ?l76 ?c77 ?k78), (Y.hi_mk KX rfl ?i79 ?i80 ?i81 ?i82 ?i83 ?i84 ?i85), (Y.hm_mk KX rfl rfl (Y.cl_mk KX ?m86 ?m87 ?m88 ?m89) ?m90 ?m91 ?m92 ?m93 ?m94), (Y.hm_mk KX rfl rfl (Y.cl_mk KX ?m95 ?m96 ?m97 ?m98) ?m99 ?m100 ?m101 ?m102 ?m103), (Y.hi_mk KX rfl ?i104 ?i105 ?i106 ?i107 ?i108 ?i109 ?i110), (Y.hm_mk KX rfl rfl (Y.cl_mk KX ?m111 ?m112 ?m113 ?m114) ?m115 ?m116 ?m117 ?m118 ?m119), (Y.cl_mk KX ?g120 ?g121 ?g122 ?g123), (Y.cl_mk KX ?g124 ?g125 ?g126 ?g127), (Y.na_mk KX rfl rfl ?n128), (Y.na_mk KX rfl rfl ?n129), (Y.na_mk KX rfl rfl ?n130), (Y.na_mk KX rfl rfl ?n131), (Y.na_mk KX rfl rfl ?n132), (Y.na_mk KX rfl rfl ?n133), (Y.na_mk KX rfl rfl ?n134), (Y.na_mk KX rfl rfl ?n135), (Y.na_mk KX rfl rfl ?n136), (Y.na_mk KX rfl rfl ?n137), (Y.na_mk KX rfl rfl ?n138), (Y.na_mk KX rfl rfl ?n139), (Y.con_int (PySem.W.mg_of KX G ?v140)), (PySem.W.mg_none_of KX G ?b141), (PySem.W.mg_none_of KX G ?b142), (PySem.W.mg_none_of KX G ?b143), (PySem.W.mg_none_of KX G ?b144), (PySem.W.mg_none_of KX G ?b145), (PySem.W.mg_none_of KX G ?b146), (PySem.W.mg_none_of KX G ?b147), (PySem.W.mg_none_of KX G ?b148), (PySem.W.mg_none_of KX G ?b149), (PySem.W.mg_none_of KX G ?b150), (PySem.W.mg_none_of KX G ?b151), (PySem.W.mg_none_of KX G ?b152), (PySem.W.mg_none_of KX G ?b153), (PySem.W.mg_none_of KX G ?b154), (PySem.W.mg_none_of KX G ?b155)⟩
    (case z1 => k_is)
    (case z2 => k_is)
    (case a3 => k_is)
    (case l4 => k_is)
    (case c5 => k_is)
    (case k6 => k_is)
    (case a7 => k_is)
    (case l8 => k_is)
    (case c9 => k_is)
    (case k10 => k_is)
    (case a11 => k_is)
    (case l12 => k_is)
    (case c13 => k_is)
    (case k14 => k_is)
    (case a15 => k_is)
    (case l16 => k_is)
    (case c17 => k_is)
    (case k18 => k_is)
    (case a19 => k_is)
    (case l20 => k_is)
    (case c21 => k_is)
    (case k22 => k_is)
    (case a23 => k_is)
    (case l24 => k_is)
    (case c25 => k_is)
    (case k26 => k_is)
    (case a27 => k_is)
    (case l28 => k_is)
    (case c29 => k_is)
    (case k30 => k_is)
    (case a31 => k_is)
    (case l32 => k_is)
    (case c33 => k_is)
    (case k34 => k_is)
    (case a35 => k_is)
    (case l36 => k_is)
    (case c37 => k_is)
    (case k38 => k_is)
    (case a39 => k_is)
    (case l40 => k_is)
    (case c41 => k_is)
    (case k42 => k_is)
    (case a43 => k_is)
    (case l44 => k_is)
    (case c45 => k_is)
    (case k46 => k_is)
    (case a47 => k_is)
    (case l48 => k_is)
    (case c49 => k_is)
    (case k50 => k_is)
    (case a51 => k_is)
    (case l52 => k_is)
    (case c53 => k_is)
    (case k54 => k_is)
    (case a55 => k_is)
    (case l56 => k_is)
    (case c57 => k_is)
    (case k58 => k_is)
    (case a59 => k_is)
    (case l60 => k_is)
    (case c61 => k_is)
    (case k62 => k_is)
    (case a63 => k_is)
    (case l64 => k_is)
    (case c65 => k_is)
    (case k66 => k_is)
    (case a67 => k_is)
    (case l68 => k_is)
    (case c69 => k_is)
    (case k70 => k_is)
    (case a71 => k_is)
    (case l72 => k_is)
    (case c73 => k_is)
    (case k74 => k_is)
    (case a75 => k_is)
    (case l76 => k_is)
    (case c77 => k_is)
    (case k78 => k_is)
    (case i79 => k_is)
    (case i80 => k_is)
    (case i81 => k_is)
    (case i82 => k_is)
    (case i83 => k_is)
    (case i84 => k_is)
    (case i85 => k_is)
    (case m86 => k_is)
    (case m87 => k_is)
    (case m88 => k_is)
    (case m89 => k_is)
    (case m90 => k_is)
    (case m91 => k_is)
    (case m92 => k_is)
    (case m93 => k_is)
    (case m94 => k_is)
    (case m95 => k_is)
    (case m96 => k_is)
    (case m97 => k_is)
    (case m98 => k_is)
    (case m99 => k_is)
    (case m100 => k_is)
    (case m101 => k_is)
    (case m102 => k_is)
    (case m103 => k_is)
    (case i104 => k_is)
    (case i105 => k_is)
    (case i106 => k_is)
    (case i107 => k_is)
    (case i108 => k_is)
    (case i109 => k_is)
    (case i110 => k_is)
    (case m111 => k_is)
    (case m112 => k_is)
    (case m113 => k_is)
    (case m114 => k_is)
    (case m115 => k_is)
    (case m116 => k_is)
    (case m117 => k_is)
    (case m118 => k_is)
    (case m119 => k_is)
    (case g120 => k_is)
    (case g121 => k_is)
    (case g122 => k_is)
    (case g123 => k_is)
    (case g124 => k_is)
    (case g125 => k_is)
    (case g126 => k_is)
    (case g127 => k_is)
    (case n128 => k_is)
    (case n129 => k_is)
    (case n130 => k_is)
    (case n131 => k_is)
    (case n132 => k_is)
    (case n133 => k_is)
    (case n134 => k_is)
    (case n135 => k_is)
    (case n136 => k_is)
    (case n137 => k_is)
    (case n138 => k_is)
    (case n139 => k_is)
    (case v140 => k_is)
    (case b141 => k_is)
    (case b142 => k_is)
    (case b143 => k_is)
    (case b144 => k_is)
    (case b145 => k_is)
    (case b146 => k_is)
    (case b147 => k_is)
    (case b148 => k_is)
    (case b149 => k_is)
    (case b150 => k_is)
    (case b151 => k_is)
    (case b152 => k_is)
    (case b153 => k_is)
    (case b154 => k_is)
    (case b155 => k_is)
