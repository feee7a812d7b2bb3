import PyProof.Rows.All
import Wide.All
import OpenK.AllK
import Wide.FinOn
import HandS.ForMost
import HandS.ForExc
import HandS.CallSlots
import HandS.IsInst
import HandS.Wide
import HandS.TupAny
import HandS.Style
import HandS.Deep
import HandS.StrMore
import PySem.Challenge.RW_lastingly_k01_words
set_option Elab.async false
set_option linter.all false
set_option maxRecDepth 100000
set_option maxHeartbeats 4000000
namespace Y
open PySem PySem.Spec PyProof.Rows L2

/-! ### values with pure tuples, a heap of what can change -/
inductive BT where
  | non | bool | int | str | tup | lst | dic
  deriving DecidableEq
def BT.nm : BT → String
  | .non => "NoneType" | .bool => "bool" | .int => "int" | .str => "str" | .tup => "tuple" | .lst => "list" | .dic => "dict"
def BT.sub : BT → BT → Bool
  | .bool, .int => true
  | a, b => decide (a = b)
inductive U where
  | non | bl (b : Bool) | int (i : Int) | str (x : Str) | tup (xs : List U) | rl (xs : List U) | ref (a : Addr) | ty (n : BT) | cls (c : Nat)
inductive GO where
  | lst (xs : List U) | dic (kvs : List (U × U)) | ins (c : Nat) (fs : List (Nat × U)) | exc (c : Nat) (fs : List (Nat × U))
abbrev Gp := Addr → Option GO
def put (G : Gp) (a : Addr) (o : GO) : Gp := fun b => if b = a then some o else G b
theorem put_same {G : Gp} {a : Addr} {o : GO} : put G a o a = some o := if_pos rfl
theorem put_ne {G : Gp} {a b : Addr} {o : GO} (h : b ≠ a) : put G a o b = G b := if_neg h
theorem put_put {G : Gp} {a : Addr} {o u : GO} : put (put G a o) a u = put G a u := by
  funext b; unfold put; split <;> rfl
/-- the first is a part of the second -/
def Sub (G G' : Gp) : Prop := ∀ a o, G a = some o → G' a = some o
theorem Sub.refl (G : Gp) : Sub G G := fun _ _ h => h
theorem Sub.trans {A B C : Gp} (x : Sub A B) (y : Sub B C) : Sub A C := fun a o h => y a o (x a o h)
theorem Sub.put {G : Gp} {p : Addr} {o : GO} (h : G p = none) : Sub G (put G p o) := fun a o' e => by
  rw [put_ne]; exact e
  intro z; subst z; rw [h] at e; cases e
theorem ne_put {G : Gp} {a p : Addr} {o : GO} (h : G a = some o) (n : G p = none) : a ≠ p := fun z => by
  subst z; rw [h] at n; cases n

abbrev SU := List (Option U)
abbrev UK := U → Gp → Prop
abbrev XU := Nat → List (Nat × U) → Gp → Prop
abbrev XS := Nat → List (Nat × U) → SU → Gp → Prop
abbrev SpU := List U → Gp → UK → XU → Prop
structure EU where
  nx : SU → Gp → Prop
  rt : UK
  bk : SU → Gp → Prop := fun _ _ => False
  ct : SU → Gp → Prop := fun _ _ => False

/-- the classes' places, the fields' names -/
structure Tb where
  cA : Nat → Addr
  nm : Nat → Str

/-- a tuple that stands: tracked, or of the written part -/
def TQ (K : PySem.W.Frag) (H : Hp) (a : Addr) (xs : List V) : Prop :=
  H a = some (.tup xs) ∨ ∃ (o : Obj) (its : Array Value) (n : Nat), K.lookup a = some o ∧ o.cls = .type "tuple" ∧ o.data = .seq its n ∧ its.size ≤ sizeLine ∧ Vals xs its.toList
theorem TQ.sq {K : PySem.W.Frag} {H : Hp} {a : Addr} {xs : List V} (h : TQ K H a xs) : SqT K H a xs := by
  rcases h with h | h
  · exact .inl (.inl h)
  · exact .inr h
/-- a list that stands, never written: the script -/
def LQ (K : PySem.W.Frag) (H : Hp) (a : Addr) (xs : List V) : Prop :=
  (∃ o, H a = some (.frz o (.lst xs))) ∨ ∃ (o : Obj) (its : Array Value) (n : Nat), K.lookup a = some o ∧ o.cls = .type "list" ∧ o.dict = none ∧ o.data = .seq its n ∧ its.size ≤ sizeLine ∧ Vals xs its.toList
theorem LQ.sq {K : PySem.W.Frag} {H : Hp} {a : Addr} {xs : List V} (h : LQ K H a xs) : SqL K H a xs := by
  rcases h with ⟨o, h⟩ | h
  · exact .inl (.inr ⟨o, h⟩)
  · exact .inr h
mutual
inductive RU (T : Tb) (K : PySem.W.Frag) (H : Hp) : U → V → Prop
  | non : RU T K H .non .non
  | bl (b : Bool) : RU T K H (.bl b) (.bl b)
  | int (i : Int) : RU T K H (.int i) (.int i)
  | str (x : Str) : RU T K H (.str x) (.str x)
  | ref (a : Addr) : RU T K H (.ref a) (.ref a)
  | ty (n : BT) : RU T K H (.ty n) (.ty n.nm)
  | cls (c : Nat) : RU T K H (.cls c) (.ref (T.cA c))
  | tup {a : Addr} {xs : List V} {us : List U} : TQ K H a xs → RUs T K H us xs → RU T K H (.tup us) (.ref a)
  | rl {a : Addr} {xs : List V} {us : List U} : LQ K H a xs → RUs T K H us xs → RU T K H (.rl us) (.ref a)
inductive RUs (T : Tb) (K : PySem.W.Frag) (H : Hp) : List U → List V → Prop
  | nil : RUs T K H [] []
  | cons {u : U} {us : List U} {v : V} {vs : List V} : RU T K H u v → RUs T K H us vs → RUs T K H (u :: us) (v :: vs)
end
/-- tuples stand, and lists that are never written -/
structure TL (K : PySem.W.Frag) (H H' : Hp) : Prop where
  tq : ∀ a xs, TQ K H a xs → TQ K H' a xs
  lq : ∀ a xs, LQ K H a xs → LQ K H' a xs
theorem TL.refl {K : PySem.W.Frag} (H : Hp) : TL K H H := ⟨fun _ _ h => h, fun _ _ h => h⟩
theorem TL.trans {K : PySem.W.Frag} {A B C : Hp} (x : TL K A B) (y : TL K B C) : TL K A C := ⟨fun a o h => y.tq a o (x.tq a o h), fun a o h => y.lq a o (x.lq a o h)⟩
def isTup : Option HO → Bool
  | some (.tup _) => true
  | some (.frz _ _) => true
  | _ => false
theorem TL.upd {K : PySem.W.Frag} {H : Hp} {p : Addr} {o : HO} (h : isTup (H p) = false) : TL K H (upd H p o) := ⟨fun a xs q => by
  rcases q with q | q
  · refine .inl ?_
    rw [upd_ne]; exact q
    intro z; subst z; rw [q] at h; cases h
  · exact .inr q, fun a xs q => by
  rcases q with ⟨ob, q⟩ | q
  · refine .inl ⟨ob, ?_⟩
    rw [upd_ne]; exact q
    intro z; subst z; rw [q] at h; cases h
  · exact .inr q⟩
theorem TL.new {K : PySem.W.Frag} {H : Hp} {p : Addr} {o : HO} (h : H p = none) : TL K H (L2.upd H p o) := TL.upd (by rw [h]; rfl)
mutual
theorem RU.mono {T : Tb} {K : PySem.W.Frag} {H H' : Hp} (t : TL K H H') : ∀ (u : U) (v : V), RU T K H u v → RU T K H' u v
  | .non, _, h => by cases h; exact .non
  | .bl _, _, h => by cases h; exact .bl _
  | .int _, _, h => by cases h; exact .int _
  | .str _, _, h => by cases h; exact .str _
  | .ref _, _, h => by cases h; exact .ref _
  | .ty _, _, h => by cases h; exact .ty _
  | .cls _, _, h => by cases h; exact .cls _
  | .tup us, _, h => by
    cases h with
    | tup q r => exact .tup (t.tq _ _ q) (RUs.mono t us _ r)
  | .rl us, _, h => by
    cases h with
    | rl q r => exact .rl (t.lq _ _ q) (RUs.mono t us _ r)
theorem RUs.mono {T : Tb} {K : PySem.W.Frag} {H H' : Hp} (t : TL K H H') : ∀ (us : List U) (vs : List V), RUs T K H us vs → RUs T K H' us vs
  | [], _, h => by cases h; exact .nil
  | u :: us, _, h => by
    cases h with
    | cons a b => exact .cons (RU.mono t u _ a) (RUs.mono t us _ b)
end
section
variable {T : Tb} {K : PySem.W.Frag} {H H' : Hp}
theorem RUs.length : ∀ {us : List U} {vs : List V}, RUs T K H us vs → us.length = vs.length
  | [], _, h => by cases h; rfl
  | u :: us, _, h => by
    cases h with
    | cons a b => rw [List.length_cons, List.length_cons, RUs.length b]
theorem RUs.get : ∀ {us : List U} {vs : List V} {i : Nat} {u : U}, RUs T K H us vs → us[i]? = some u → ∃ v, vs[i]? = some v ∧ RU T K H u v
  | [], _, _, _, _, e => by simp at e
  | u :: us, _, 0, _, h, e => by
    cases h with
    | cons a b => simp at e; subst e; exact ⟨_, rfl, a⟩
  | u :: us, _, i + 1, x, h, e => by
    cases h with
    | cons a b =>
      obtain ⟨v, h1, h2⟩ := RUs.get (i := i) (u := x) b (by simpa using e)
      exact ⟨v, by simpa using h1, h2⟩
theorem RUs.getV : ∀ {us : List U} {vs : List V} {i : Nat} {v : V}, RUs T K H us vs → vs[i]? = some v → ∃ u, us[i]? = some u ∧ RU T K H u v
  | [], _, _, _, h, e => by cases h; simp at e
  | u :: us, _, 0, _, h, e => by
    cases h with
    | cons a b => simp at e; subst e; exact ⟨_, rfl, a⟩
  | u :: us, _, i + 1, x, h, e => by
    cases h with
    | cons a b =>
      obtain ⟨v, h1, h2⟩ := RUs.getV (i := i) (v := x) b (by simpa using e)
      exact ⟨v, by simpa using h1, h2⟩
theorem RUs.append : ∀ {us ws : List U} {vs zs : List V}, RUs T K H us vs → RUs T K H ws zs → RUs T K H (us ++ ws) (vs ++ zs)
  | [], _, _, _, h, q => by cases h; exact q
  | u :: us, _, _, _, h, q => by
    cases h with
    | cons a b => exact .cons a (RUs.append b q)
theorem RUs.take : ∀ {us : List U} {vs : List V} (n : Nat), RUs T K H us vs → RUs T K H (us.take n) (vs.take n)
  | _, _, 0, _ => .nil
  | [], _, _ + 1, h => by cases h; exact .nil
  | u :: us, _, n + 1, h => by
    cases h with
    | cons a b => exact .cons a (RUs.take n b)
theorem RUs.drop : ∀ {us : List U} {vs : List V} (n : Nat), RUs T K H us vs → RUs T K H (us.drop n) (vs.drop n)
  | _, _, 0, h => h
  | [], _, _ + 1, h => by cases h; exact .nil
  | u :: us, _, n + 1, h => by
    cases h with
    | cons a b => exact RUs.drop n b
theorem RUs.set {u : U} {v : V} (r : RU T K H u v) : ∀ {us : List U} {vs : List V} (i : Nat), RUs T K H us vs → RUs T K H (us.set i u) (vs.set i v)
  | [], _, _, h => by cases h; exact .nil
  | x :: us, _, 0, h => by
    cases h with
    | cons a b => exact .cons r b
  | x :: us, _, i + 1, h => by
    cases h with
    | cons a b => exact .cons a (RUs.set r i b)
theorem RUs.ints : ∀ (ns : List Int), RUs T K H (ns.map U.int) (ns.map V.int)
  | [] => .nil
  | n :: ns => .cons (.int n) (RUs.ints ns)
theorem RUs.strs : ∀ (ns : List Str), RUs T K H (ns.map U.str) (ns.map V.str)
  | [] => .nil
  | n :: ns => .cons (.str n) (RUs.strs ns)
end

/-! ### keys and dicts -/
def keyU : U → Option Key
  | .int i => some (.inl i)
  | .str x => some (.inr x)
  | _ => none
def keysU : List U → Option (List Key)
  | [] => some []
  | u :: us => match keyU u, keysU us with
    | some k, some ks => some (k :: ks)
    | _, _ => none
/-- the pairs of a dict: keys ints and texts; keys flat tuples of them -/
inductive DK (T : Tb) (K : PySem.W.Frag) (H : Hp) : List (U × U) → List (Key × V) → Prop
  | nil : DK T K H [] []
  | cons {u x : U} {k : Key} {v : V} {r : List (U × U)} {q : List (Key × V)} : keyU u = some k → RU T K H x v → DK T K H r q → DK T K H ((u, x) :: r) ((k, v) :: q)
inductive DT (T : Tb) (K : PySem.W.Frag) (H : Hp) : List (U × U) → List (List Key × V) → Prop
  | nil : DT T K H [] []
  | cons {us : List U} {x : U} {k : List Key} {v : V} {r : List (U × U)} {q : List (List Key × V)} : keysU us = some k → RU T K H x v → DT T K H r q → DT T K H ((.tup us, x) :: r) ((k, v) :: q)
inductive FR (T : Tb) (K : PySem.W.Frag) (H : Hp) : List (Nat × U) → List (Str × V) → Prop
  | nil : FR T K H [] []
  | cons {n : Nat} {x : U} {v : V} {r : List (Nat × U)} {q : List (Str × V)} : RU T K H x v → FR T K H r q → FR T K H ((n, x) :: r) ((T.nm n, v) :: q)
section
variable {T : Tb} {K : PySem.W.Frag} {H H' : Hp}
theorem DK.mono (t : TL K H H') : ∀ {a : List (U × U)} {b : List (Key × V)}, DK T K H a b → DK T K H' a b
  | _, _, .nil => .nil
  | _, _, .cons e r q => .cons e (RU.mono t _ _ r) (DK.mono t q)
theorem DT.mono (t : TL K H H') : ∀ {a : List (U × U)} {b : List (List Key × V)}, DT T K H a b → DT T K H' a b
  | _, _, .nil => .nil
  | _, _, .cons e r q => .cons e (RU.mono t _ _ r) (DT.mono t q)
theorem FR.mono (t : TL K H H') : ∀ {a : List (Nat × U)} {b : List (Str × V)}, FR T K H a b → FR T K H' a b
  | _, _, .nil => .nil
  | _, _, .cons r q => .cons (RU.mono t _ _ r) (FR.mono t q)
end

/-! ### the heaps -/
def RG (T : Tb) (K : PySem.W.Frag) (H : Hp) (a : Addr) : GO → Prop
  | .lst us => ∃ vs, H a = some (.lst vs) ∧ RUs T K H us vs
  | .dic kvs => (∃ q, H a = some (.dK q) ∧ DK T K H kvs q) ∨ (∃ q, H a = some (.dT q) ∧ DT T K H kvs q)
  | .ins c fs => ∃ dx q, H a = some (.ins (T.cA c) dx q) ∧ FR T K H fs q
  | .exc c fs => False
def Abs (T : Tb) (K : PySem.W.Frag) (H : Hp) (G : Gp) : Prop := ∀ a o, G a = some o → RG T K H a o
def RS (T : Tb) (K : PySem.W.Frag) (H : Hp) (σ : SU) (σv : L2.St) : Prop := σ.length = σv.length ∧ ∀ (i : Nat) (u : U), σ[i]? = some (some u) → ∃ v, σv[i]? = some (some v) ∧ RU T K H u v
section
variable {T : Tb} {K : PySem.W.Frag} {H H' : Hp} {G : Gp} {a p : Addr} {o : GO} {σ : SU} {σv : L2.St}
theorem RG.stay (t : TL K H H') (h : ∀ o, H a = some o → H' a = some o) (r : RG T K H a o) : RG T K H' a o := by
  cases o with
  | lst us => obtain ⟨vs, e, q⟩ := r; exact ⟨vs, h _ e, RUs.mono t _ _ q⟩
  | dic kvs =>
    rcases r with ⟨q, e, d⟩ | ⟨q, e, d⟩
    · exact .inl ⟨q, h _ e, d.mono t⟩
    · exact .inr ⟨q, h _ e, d.mono t⟩
  | ins c fs => obtain ⟨dx, q, e, d⟩ := r; exact ⟨dx, q, h _ e, d.mono t⟩
  | exc c fs => exact r.elim
theorem RG.there (r : RG T K H a o) : ∃ x, H a = some x := by
  cases o with
  | lst us => obtain ⟨vs, e, q⟩ := r; exact ⟨_, e⟩
  | dic kvs =>
    rcases r with ⟨q, e, d⟩ | ⟨q, e, d⟩
    · exact ⟨_, e⟩
    · exact ⟨_, e⟩
  | ins c fs => obtain ⟨dx, q, e, d⟩ := r; exact ⟨_, e⟩
  | exc c fs => exact r.elim
theorem RG.notup (r : RG T K H a o) : isTup (H a) = false := by
  cases o with
  | lst us => obtain ⟨vs, e, q⟩ := r; rw [e]; rfl
  | dic kvs =>
    rcases r with ⟨q, e, d⟩ | ⟨q, e, d⟩
    · rw [e]; rfl
    · rw [e]; rfl
  | ins c fs => obtain ⟨dx, q, e, d⟩ := r; rw [e]; rfl
  | exc c fs => exact r.elim
theorem Abs.free (h : Abs T K H G) (n : H p = none) : G p = none := by
  cases e : G p with
  | none => rfl
  | some o =>
    obtain ⟨x, q⟩ := (h p o e).there
    rw [n] at q; cases q
theorem Abs.sub {G' : Gp} (h : Abs T K H G) (s : Sub G' G) : Abs T K H G' := fun a o e => h a o (s a o e)
/-- one address is written -/
theorem Abs.put {ov : HO} (h : Abs T K H G) (t : isTup (H p) = false) (r : RG T K (upd H p ov) p o) : Abs T K (upd H p ov) (put G p o) := fun a o' e => by
  by_cases hp : a = p
  · subst hp; rw [put_same] at e; cases e; exact r
  · rw [put_ne hp] at e
    exact (h a o' e).stay (TL.upd t) fun x q => by rw [upd_ne hp]; exact q
/-- a new address that is not tracked above -/
theorem Abs.newV {ov : HO} (h : Abs T K H G) (n : H p = none) : Abs T K (upd H p ov) G := fun a o' e => by
  have hp : a ≠ p := fun z => by
    subst z
    obtain ⟨x, q⟩ := (h a o' e).there
    rw [n] at q; cases q
  exact (h a o' e).stay (TL.new n) fun x q => by rw [upd_ne hp]; exact q
theorem RS.mono (t : TL K H H') (r : RS T K H σ σv) : RS T K H' σ σv := ⟨r.1, fun i u e => by
  obtain ⟨v, q, w⟩ := r.2 i u e
  exact ⟨v, q, RU.mono t _ _ w⟩⟩
theorem RS.set {u : U} {v : V} (r : RS T K H σ σv) (i : Nat) (h : RU T K H u v) : RS T K H (σ.set i (some u)) (σv.set i (some v)) := by
  refine ⟨by rw [List.length_set, List.length_set]; exact r.1, fun j x e => ?_⟩
  by_cases hj : j = i
  · subst hj
    have hl : j < σ.length := by
      by_cases hl : j < σ.length
      · exact hl
      · rw [List.getElem?_eq_none (by rw [List.length_set]; omega)] at e; cases e
    rw [List.getElem?_set_self hl] at e
    cases e
    exact ⟨v, List.getElem?_set_self (by rw [← r.1]; exact hl), h⟩
  · rw [List.getElem?_set_ne (Ne.symm hj)] at e
    obtain ⟨w, q, z⟩ := r.2 j x e
    exact ⟨w, by rw [List.getElem?_set_ne (Ne.symm hj)]; exact q, z⟩
theorem RS.unset (r : RS T K H σ σv) (i : Nat) (ov : Option V) : RS T K H (σ.set i none) (σv.set i ov) := by
  refine ⟨by rw [List.length_set, List.length_set]; exact r.1, fun j x e => ?_⟩
  by_cases hj : j = i
  · subst hj
    by_cases hl : j < σ.length
    · rw [List.getElem?_set_self hl] at e; cases e
    · rw [List.getElem?_eq_none (by rw [List.length_set]; omega)] at e; cases e
  · rw [List.getElem?_set_ne (Ne.symm hj)] at e
    obtain ⟨w, q, z⟩ := r.2 j x e
    exact ⟨w, by rw [List.getElem?_set_ne (Ne.symm hj)]; exact q, z⟩
end

/-! ### readings above, lifted below -/
abbrev TEU := SU → Gp → UK → Prop
abbrev TAU := SU → Gp → (List U → Gp → Prop) → Prop
abbrev TTU := SU → Gp → (Bool → Gp → Prop) → Prop
abbrev TSU := EU → SU → Gp → Prop
abbrev TGU := U → SU → Gp → (SU → Gp → Prop) → Prop
/-- what stands behind an expression -/
def QV (T : Tb) (K : PySem.W.Frag) (H : Hp) (Q : UK) : VK := fun v H' => ∃ x G', TL K H H' ∧ Abs T K H' G' ∧ RU T K H' x v ∧ Q x G'
def QVs (T : Tb) (K : PySem.W.Frag) (H : Hp) (Q : List U → Gp → Prop) (vs : List V) (H' : Hp) : Prop := ∃ xs G', TL K H H' ∧ Abs T K H' G' ∧ RUs T K H' xs vs ∧ Q xs G'
def QB (T : Tb) (K : PySem.W.Frag) (H : Hp) (Q : Bool → Gp → Prop) (b : Bool) (H' : Hp) : Prop := ∃ G', TL K H H' ∧ Abs T K H' G' ∧ Q b G'
def QN (T : Tb) (K : PySem.W.Frag) (H : Hp) (Q : SU → Gp → Prop) (σv : L2.St) (H' : Hp) : Prop := ∃ σ G', TL K H H' ∧ Abs T K H' G' ∧ RS T K H' σ σv ∧ Q σ G'
def lE (T : Tb) (K : PySem.W.Frag) (t : TEU) : TE := fun σv H Qv => ∃ σ G Q, RS T K H σ σv ∧ Abs T K H G ∧ t σ G Q ∧ ∀ v H', QV T K H Q v H' → Qv v H'
def lA (T : Tb) (K : PySem.W.Frag) (t : TAU) : TA := fun σv H Qv => ∃ σ G Q, RS T K H σ σv ∧ Abs T K H G ∧ t σ G Q ∧ ∀ v H', QVs T K H Q v H' → Qv v H'
def lT (T : Tb) (K : PySem.W.Frag) (t : TTU) : TT := fun σv H Qv => ∃ σ G Q, RS T K H σ σv ∧ Abs T K H G ∧ t σ G Q ∧ ∀ v H', QB T K H Q v H' → Qv v H'
def lS (T : Tb) (K : PySem.W.Frag) (t : TSU) : TS := fun D σv H => ∃ σ G DU, RS T K H σ σv ∧ Abs T K H G ∧ t DU σ G ∧ (∀ σ' H', QN T K H DU.nx σ' H' → D.nx σ' H') ∧ (∀ v H', QV T K H DU.rt v H' → D.rt v H') ∧
  (∀ σ' H', QN T K H DU.bk σ' H' → D.bk σ' H') ∧ (∀ σ' H', QN T K H DU.ct σ' H' → D.ct σ' H')
def lG (T : Tb) (K : PySem.W.Frag) (t : TGU) : TG := fun v σv H Qv => ∃ x σ G Q, RU T K H x v ∧ RS T K H σ σv ∧ Abs T K H G ∧ t x σ G Q ∧ ∀ σ' H', QN T K H Q σ' H' → Qv σ' H'
theorem PEi {X : Cx} {e : Expr} {t t' : TE} (h : PE X e t') (i : ∀ σ H Q, t σ H Q → t' σ H Q) : PE X e t := ⟨fun pins s σ H Q I q => h.run pins s σ H Q I (i σ H Q q)⟩
theorem PTi {X : Cx} {e : Expr} {t t' : TT} (h : PT X e t') (i : ∀ σ H Q, t σ H Q → t' σ H Q) : PT X e t := ⟨fun pins s σ H Q I q => h.run pins s σ H Q I (i σ H Q q)⟩
theorem PWi {X : Cx} {e : Expr} {t t' : TT} (h : PW X e t') (i : ∀ σ H Q, t σ H Q → t' σ H Q) : PW X e t := ⟨fun wh pins s σ H Q I q => h.run wh pins s σ H Q I (i σ H Q q)⟩
theorem PAi {X : Cx} {e : List Expr} {t t' : TA} (h : PA X e t') (i : ∀ σ H Q, t σ H Q → t' σ H Q) : PA X e t := ⟨fun p pins s σ H Q I q => h.run p pins s σ H Q I (i σ H Q q)⟩
theorem PSi {X : Cx} {e : Stmt} {t t' : TS} (h : PS X e t') (i : ∀ D σ H, t D σ H → t' D σ H) : PS X e t := ⟨fun pins s σ H D I q => h.run pins s σ H D I (i D σ H q)⟩
theorem PSsi {X : Cx} {e : List Stmt} {t t' : TS} (h : PSs X e t') (i : ∀ D σ H, t D σ H → t' D σ H) : PSs X e t := ⟨fun pins s σ H D I q => h.run pins s σ H D I (i D σ H q)⟩
theorem PGi {X : Cx} {e : Expr} {t t' : TG} (h : PG X e t') (i : ∀ v σ H Q, t v σ H Q → t' v σ H Q) : PG X e t := ⟨fun pins s σ H v u Q I r q => h.run pins s σ H v u Q I r (i v σ H Q q)⟩
section
variable {T : Tb} {K : PySem.W.Frag} {H H1 : Hp} {G : Gp}
/-- the heap stands -/
theorem QV.same {Q : UK} {x : U} {v : V} (ab : Abs T K H G) (r : RU T K H x v) (q : Q x G) : QV T K H Q v H := ⟨x, G, TL.refl H, ab, r, q⟩
theorem QV.from {Q : UK} {v : V} {H' : Hp} (t : TL K H H1) (q : QV T K H1 Q v H') : QV T K H Q v H' := by
  obtain ⟨x, G', t', ab, r, q⟩ := q
  exact ⟨x, G', t.trans t', ab, r, q⟩
theorem QVs.from {Q : List U → Gp → Prop} {v : List V} {H' : Hp} (t : TL K H H1) (q : QVs T K H1 Q v H') : QVs T K H Q v H' := by
  obtain ⟨x, G', t', ab, r, q⟩ := q
  exact ⟨x, G', t.trans t', ab, r, q⟩
theorem QB.from {Q : Bool → Gp → Prop} {v : Bool} {H' : Hp} (t : TL K H H1) (q : QB T K H1 Q v H') : QB T K H Q v H' := by
  obtain ⟨G', t', ab, q⟩ := q
  exact ⟨G', t.trans t', ab, q⟩
theorem QN.from {Q : SU → Gp → Prop} {v : L2.St} {H' : Hp} (t : TL K H H1) (q : QN T K H1 Q v H') : QN T K H Q v H' := by
  obtain ⟨x, G', t', ab, r, q⟩ := q
  exact ⟨x, G', t.trans t', ab, r, q⟩
/-- a new tuple -/
theorem QV.tup {Q : UK} {us : List U} {vs : List V} {p : Addr} (ab : Abs T K H G) (n : H p = none) (r : RUs T K H us vs) (q : Q (.tup us) G) : QV T K H Q (.ref p) (upd H p (.tup vs)) :=
  ⟨.tup us, G, TL.new n, ab.newV n, .tup (.inl upd_same) (RUs.mono (TL.new n) _ _ r), q⟩
/-- a new list -/
theorem QV.lst {Q : UK} {us : List U} {vs : List V} {p : Addr} (ab : Abs T K H G) (n : H p = none) (r : RUs T K H us vs) (q : ∀ p, G p = none → Q (.ref p) (put G p (.lst us))) : QV T K H Q (.ref p) (upd H p (.lst vs)) :=
  ⟨.ref p, put G p (.lst us), TL.new n, ab.put (by rw [n]; rfl) ⟨vs, upd_same, RUs.mono (TL.new n) _ _ r⟩, .ref p, q p (ab.free n)⟩
end
end Y

namespace Y
open PySem PySem.Spec PyProof.Rows L2

/-! ### reading lists and data -/
def lsG : Option GO → Option (List U)
  | some (.lst xs) => some xs
  | _ => none
def rdL (G : Gp) : U → Option (List U)
  | .tup xs => some xs
  | .rl xs => some xs
  | .ref a => lsG (G a)
  | _ => none
def datL (f : U → Option PyData) : List U → Option (List PyData)
  | [] => some []
  | u :: us => match f u, datL f us with
    | some d, some ds => some (d :: ds)
    | _, _ => none
/-- the data that a value reads as -/
def dat : Nat → Gp → U → Option PyData
  | 0, _, _ => none
  | _ + 1, _, .non => some .none
  | _ + 1, _, .bl b => some (.bool b)
  | _ + 1, _, .int i => some (.int i)
  | _ + 1, _, .str x => some (.str x)
  | n + 1, G, .tup xs => match datL (dat n G) xs with
    | some ds => some (.tuple ds)
    | none => none
  | n + 1, G, .rl xs => match datL (dat n G) xs with
    | some ds => some (.list ds)
    | none => none
  | n + 1, G, .ref a => match lsG (G a) with
    | some xs => match datL (dat n G) xs with
      | some ds => some (.list ds)
      | none => none
    | none => none
  | _ + 1, _, .ty _ => none
  | _ + 1, _, .cls _ => none
section
variable {T : Tb} {K : PySem.W.Frag} {H : Hp} {G : Gp}
theorem Abs.list {a : Addr} {xs : List U} (ab : Abs T K H G) (e : lsG (G a) = some xs) : ∃ vs, Rd H a (.lst vs) ∧ RUs T K H xs vs := by
  cases q : G a with
  | none => rw [q] at e; cases e
  | some o =>
    rw [q] at e
    have r := ab a o q
    cases o with
    | lst us => cases e; obtain ⟨vs, h, r⟩ := r; exact ⟨vs, .inl h, r⟩
    | dic _ => cases e
    | ins _ _ => cases e
    | exc _ _ => cases e
theorem datL_dp {f : U → Option PyData} (hf : ∀ u d v, f u = some d → RU T K H u v → Dp K H v d) : ∀ {us : List U} {vs : List V} {ds : List PyData}, datL f us = some ds → RUs T K H us vs → DpAll K H vs ds
  | [], _, _, e, r => by cases r; cases e; exact .nil
  | u :: us, _, _, e, r => by
    cases r with
    | cons a b =>
      unfold datL at e
      cases h1 : f u with
      | none => rw [h1] at e; cases e
      | some d =>
        cases h2 : datL f us with
        | none => rw [h1, h2] at e; cases e
        | some ds =>
          rw [h1, h2] at e
          cases e
          exact .cons (hf _ _ _ h1 a) (datL_dp hf h2 b)
theorem dat_dp (ab : Abs T K H G) : ∀ (n : Nat) (u : U) (d : PyData) (v : V), dat n G u = some d → RU T K H u v → Dp K H v d
  | 0, _, _, _, e, _ => by cases e
  | n + 1, .non, _, _, e, r => by cases e; cases r; exact .non
  | n + 1, .bl _, _, _, e, r => by cases e; cases r; exact .bl _
  | n + 1, .int _, _, _, e, r => by cases e; cases r; exact .int _
  | n + 1, .str _, _, _, e, r => by cases e; cases r; exact .str _
  | n + 1, .ty _, _, _, e, _ => by cases e
  | n + 1, .cls _, _, _, e, _ => by cases e
  | n + 1, .tup xs, _, _, e, r => by
    cases r with
    | tup q r =>
      unfold dat at e
      cases h : datL (dat n G) xs with
      | none => rw [h] at e; cases e
      | some ds =>
        rw [h] at e
        cases e
        exact .tup q.sq (datL_dp (fun u d v => dat_dp ab n u d v) h r)
  | n + 1, .rl xs, _, _, e, r => by
    cases r with
    | rl q r =>
      unfold dat at e
      cases h : datL (dat n G) xs with
      | none => rw [h] at e; cases e
      | some ds =>
        rw [h] at e
        cases e
        exact .lst q.sq (datL_dp (fun u d v => dat_dp ab n u d v) h r)
  | n + 1, .ref a, _, _, e, r => by
    cases r
    unfold dat at e
    cases hl : lsG (G a) with
    | none => rw [hl] at e; cases e
    | some xs =>
      rw [hl] at e
      cases h : datL (dat n G) xs with
      | none => simp only [h] at e; cases e
      | some ds =>
        simp only [h] at e
        cases e
        obtain ⟨vs, hr, rs⟩ := ab.list hl
        exact .lst (.inl hr) (datL_dp (fun u d v => dat_dp ab n u d v) h rs)
end

/-! ### operators above -/
abbrev R2U := U → U → Gp → UK → Prop
def ImpR (T : Tb) (K : PySem.W.Frag) (r : R2) (rU : R2U) : Prop := ∀ (H : Hp) (G : Gp) (x y : U) (xv yv : V) (Q : UK) (Qv : VK), Abs T K H G → RU T K H x xv → RU T K H y yv → rU x y G Q → (∀ v H', QV T K H Q v H' → Qv v H') → r xv yv H Qv
def OpL (T : Tb) (X : Cx) (f : Value → Value → Sem Value) (rU : R2U) : Prop := ∃ r, OpR X f r ∧ ImpR T X.K r rU
theorem OpL.or {T : Tb} {X : Cx} {f : Value → Value → Sem Value} {r r' : R2U} (h : OpL T X f r) (h' : OpL T X f r') : OpL T X f (fun x y G Q => r x y G Q ∨ r' x y G Q) := by
  obtain ⟨a, ha, ia⟩ := h
  obtain ⟨b, hb, ib⟩ := h'
  refine ⟨_, ha.or hb, fun H G x y xv yv Q Qv ab rx ry h q => ?_⟩
  rcases h with h | h
  · exact .inl (ia H G x y xv yv Q Qv ab rx ry h q)
  · exact .inr (ib H G x y xv yv Q Qv ab rx ry h q)
theorem OpL.imp {T : Tb} {X : Cx} {f : Value → Value → Sem Value} {r r' : R2U} (h : OpL T X f r) (i : ∀ x y G Q, r' x y G Q → r x y G Q) : OpL T X f r' := by
  obtain ⟨a, ha, ia⟩ := h
  exact ⟨a, ha, fun H G x y xv yv Q Qv ab rx ry h q => ia H G x y xv yv Q Qv ab rx ry (i _ _ _ _ h) q⟩
/-- two ints give an int, a bool -/
def rII (C : Int → Int → Prop) (g : Int → Int → U) : R2U := fun x y G Q => ∃ i j, x = .int i ∧ y = .int j ∧ C i j ∧ Q (g i j) G
section
variable {T : Tb} {X : Cx}
theorem opl_I {f : Value → Value → Sem Value} {C : Int → Int → Prop} {g : Int → Int → Int} (h : OpR X f (rI C fun i j => .int (g i j))) : OpL T X f (rII C fun i j => .int (g i j)) :=
  ⟨_, h, fun H G x y xv yv Q Qv ab rx ry h q => by
    obtain ⟨i, j, rfl, rfl, c, h⟩ := h
    cases rx; cases ry
    exact ⟨i, j, rfl, rfl, c, q _ _ (QV.same ab (.int _) h)⟩⟩
theorem opl_I0 {f : Value → Value → Sem Value} {g : Int → Int → Int} (h : OpR X f (rI0 fun i j => .int (g i j))) : OpL T X f (rII (fun _ _ => True) fun i j => .int (g i j)) :=
  ⟨_, h, fun H G x y xv yv Q Qv ab rx ry h q => by
    obtain ⟨i, j, rfl, rfl, c, h⟩ := h
    cases rx; cases ry
    exact ⟨i, j, rfl, rfl, q _ _ (QV.same ab (.int _) h)⟩⟩
theorem opl_B0 {f : Value → Value → Sem Value} {g : Int → Int → Bool} (h : OpR X f (rI0 fun i j => .bl (g i j))) : OpL T X f (rII (fun _ _ => True) fun i j => .bl (g i j)) :=
  ⟨_, h, fun H G x y xv yv Q Qv ab rx ry h q => by
    obtain ⟨i, j, rfl, rfl, c, h⟩ := h
    cases rx; cases ry
    exact ⟨i, j, rfl, rfl, q _ _ (QV.same ab (.bl _) h)⟩⟩
end
/-! #### + -/
def addU (x y : U) (G : Gp) (Q : UK) : Prop := match x, y with
  | .int i, .int j => Q (.int (i + j)) G
  | .str a, .str b => a.length + b.length ≤ sizeLine ∧ Q (.str (a ++ b)) G
  | .tup a, .tup b => a.length + b.length ≤ sizeLine ∧ Q (.tup (a ++ b)) G
  | .ref a, .ref b => match G a, G b with
    | some (.lst xs), some (.lst ys) => xs.length + ys.length ≤ sizeLine ∧ ∀ p, G p = none → Q (.ref p) (put G p (.lst (xs ++ ys)))
    | _, _ => False
  | _, _ => False
def MulOk (i j : Int) : Prop := CMul i j ∨ CMulW i j
def mulU (x y : U) (G : Gp) (Q : UK) : Prop := match x, y with
  | .int i, .int j => MulOk i j ∧ Q (.int (i * j)) G
  | .ref a, .int k => match G a with
    | some (.lst xs) => 0 ≤ k ∧ k < 2 ^ 63 ∧ xs.length * k.toNat ≤ sizeLine ∧ ∀ p, G p = none → Q (.ref p) (put G p (.lst (List.replicate k.toNat xs).flatten))
    | _ => False
  | _, _ => False
def intU (C : Int → Int → Prop) (g : Int → Int → U) (x y : U) (G : Gp) (Q : UK) : Prop := match x, y with
  | .int i, .int j => C i j ∧ Q (g i j) G
  | _, _ => False
def DivOk (_ j : Int) : Prop := 0 < j ∧ j.natAbs.log2 < 9000
def PowOk (i j : Int) : Prop := 0 ≤ j ∧ j ≤ 1000000 ∧ i.natAbs < 2 ^ 64
def noU (_ _ : U) (_ : Gp) (_ : UK) : Prop := False
def binU : Operator → R2U
  | .Add => addU
  | .Sub => intU (fun _ _ => True) fun i j => .int (i - j)
  | .Mult => mulU
  | .FloorDiv => intU DivOk fun i j => .int (i / j)
  | .Mod => intU (fun _ j => 0 < j) fun i j => .int (i % j)
  | .Pow => intU PowOk fun i j => .int (i ^ j.toNat)
  | .LShift => intU PowOk fun i j => .int (i * 2 ^ j.toNat)
  | .RShift => intU (fun _ j => 0 ≤ j) fun i j => .int (i / 2 ^ j.toNat)
  | .BitAnd => intU (fun _ _ => True) fun i j => .int (Builtin.bitAnd i j)
  | _ => noU
section
variable {T : Tb} {X : Cx}
theorem intU_rII {C : Int → Int → Prop} {g : Int → Int → U} {x y : U} {G : Gp} {Q : UK} (h : intU C g x y G Q) : rII C g x y G Q := by
  unfold intU at h
  split at h
  · exact ⟨_, _, rfl, rfl, h.1, h.2⟩
  · exact h.elim
theorem opl_never {f : Value → Value → Sem Value} : OpL T X f noU := ⟨fun _ _ _ _ => False, fun pins s σ H x y v u Q I rx ry h => h.elim, fun H G x y xv yv Q Qv ab rx ry h q => h.elim⟩
theorem opl_str : OpL T X (binaryOp .Add) (fun x y G Q => ∃ a b, x = .str a ∧ y = .str b ∧ a.length + b.length ≤ sizeLine ∧ Q (.str (a ++ b)) G) :=
  ⟨_, op_add_str, fun H G x y xv yv Q Qv ab rx ry h q => by
    obtain ⟨a, b, rfl, rfl, c, h⟩ := h
    cases rx; cases ry
    exact ⟨a, b, rfl, rfl, c, q _ _ (QV.same ab (.str _) h)⟩⟩
theorem RUs.nil_iff {T : Tb} {K : PySem.W.Frag} {H : Hp} {us : List U} {vs : List V} (r : RUs T K H us vs) : us = [] ↔ vs = [] := by
  have e := r.length
  constructor
  · intro h; subst h; exact List.length_eq_zero_iff.mp e.symm
  · intro h; subst h; exact List.length_eq_zero_iff.mp e
theorem opl_tup : OpL T X (binaryOp .Add) (fun x y G Q => ∃ a b, x = .tup a ∧ y = .tup b ∧ a.length + b.length ≤ sizeLine ∧ Q (.tup (a ++ b)) G) :=
  ⟨_, op_catA, fun H G x y xv yv Q Qv ab rx ry h q => by
    obtain ⟨a, b, rfl, rfl, c, h⟩ := h
    cases rx with
    | @tup pa xs _ sa ra =>
      cases ry with
      | @tup pb ys _ sb rb =>
        refine ⟨pa, pb, xs, ys, rfl, rfl, sa.sq, sb.sq, by rw [← ra.length, ← rb.length]; exact c, fun e => ?_, fun e1 e2 => ?_, fun e1 e2 p n => ?_⟩
        · have e' := ra.nil_iff.mpr e
          subst e'
          exact q _ _ (QV.same ab (.tup sb rb) h)
        · have e' := rb.nil_iff.mpr e2
          subst e'
          rw [List.append_nil] at h
          exact q _ _ (QV.same ab (.tup sa ra) h)
        · exact q _ _ (QV.tup ab n (ra.append rb) h)⟩
theorem opl_lst : OpL T X (binaryOp .Add) (fun x y G Q => ∃ a b xs ys, x = .ref a ∧ y = .ref b ∧ G a = some (.lst xs) ∧ G b = some (.lst ys) ∧ xs.length + ys.length ≤ sizeLine ∧ ∀ p, G p = none → Q (.ref p) (put G p (.lst (xs ++ ys)))) :=
  ⟨_, op_cat, fun H G x y xv yv Q Qv ab rx ry h q => by
    obtain ⟨a, b, xs, ys, rfl, rfl, ha, hb, c, h⟩ := h
    cases rx; cases ry
    obtain ⟨vs, h1, r1⟩ := ab _ _ ha
    obtain ⟨ws, h2, r2⟩ := ab _ _ hb
    exact ⟨a, b, vs, ws, rfl, rfl, h1, h2, by rw [← r1.length, ← r2.length]; exact c, fun p n => q _ _ (QV.lst ab n (r1.append r2) h)⟩⟩
theorem opl_add : OpL T X (binaryOp .Add) addU :=
  ((opl_I0 op_add).or (opl_str.or (opl_tup.or opl_lst))).imp fun x y G Q h => by
    unfold addU at h
    split at h
    · exact .inl ⟨_, _, rfl, rfl, trivial, h⟩
    · exact .inr (.inl ⟨_, _, rfl, rfl, h.1, h.2⟩)
    · exact .inr (.inr (.inl ⟨_, _, rfl, rfl, h.1, h.2⟩))
    · split at h
      · rename_i h1 h2
        exact .inr (.inr (.inr ⟨_, _, _, _, rfl, rfl, h1, h2, h.1, h.2⟩))
      · exact h.elim
    · exact h.elim
theorem rep_RUs {T : Tb} {K : PySem.W.Frag} {H : Hp} {us : List U} {vs : List V} (r : RUs T K H us vs) : ∀ n : Nat, RUs T K H (List.replicate n us).flatten (List.replicate n vs).flatten
  | 0 => .nil
  | n + 1 => by
    rw [List.replicate_succ, List.replicate_succ, List.flatten_cons, List.flatten_cons]
    exact r.append (rep_RUs r n)
theorem opl_rep : OpL T X (binaryOp .Mult) (fun x y G Q => ∃ a k xs, x = .ref a ∧ y = .int k ∧ G a = some (.lst xs) ∧ 0 ≤ k ∧ k < 2 ^ 63 ∧ xs.length * k.toNat ≤ sizeLine ∧ ∀ p, G p = none → Q (.ref p) (put G p (.lst (List.replicate k.toNat xs).flatten))) :=
  ⟨_, op_rep, fun H G x y xv yv Q Qv ab rx ry h q => by
    obtain ⟨a, k, xs, rfl, rfl, ha, h0, h1, hz, h⟩ := h
    cases rx; cases ry
    obtain ⟨vs, e1, r1⟩ := ab _ _ ha
    exact ⟨a, k, vs, rfl, rfl, e1, by omega, h1, by rw [← r1.length]; exact hz, fun p n => q _ _ (QV.lst ab n (rep_RUs r1 _) h)⟩⟩
theorem opl_mul : OpL T X (binaryOp .Mult) mulU :=
  ((opl_I op_mul).or ((opl_I op_mulW).or opl_rep)).imp fun x y G Q h => by
    unfold mulU at h
    split at h
    · rcases h with ⟨h | h, q⟩
      · exact .inl ⟨_, _, rfl, rfl, h, q⟩
      · exact .inr (.inl ⟨_, _, rfl, rfl, h, q⟩)
    · split at h
      · rename_i h1
        exact .inr (.inr ⟨_, _, _, rfl, rfl, h1, h⟩)
      · exact h.elim
    · exact h.elim
theorem opl_bin : ∀ op : Operator, OpL T X (binaryOp op) (binU op)
  | .Add => opl_add
  | .Sub => (opl_I0 op_sub).imp fun _ _ _ _ h => intU_rII h
  | .Mult => opl_mul
  | .FloorDiv => (opl_I op_fdivW).imp fun _ _ _ _ h => intU_rII h
  | .Mod => (opl_I op_mod).imp fun _ _ _ _ h => intU_rII h
  | .Pow => (opl_I op_pow).imp fun _ _ _ _ h => intU_rII h
  | .LShift => (opl_I op_shl).imp fun _ _ _ _ h => intU_rII h
  | .RShift => (opl_I op_shr).imp fun _ _ _ _ h => intU_rII h
  | .BitAnd => (opl_I0 op_and).imp fun _ _ _ _ h => intU_rII h
  | .MatMult => opl_never
  | .Div => opl_never
  | .BitOr => opl_never
  | .BitXor => opl_never
end

/-! #### comparisons -/
def scU : U → U → Bool
  | .non, .non => true | .non, .int _ => true | .int _, .non => true | .non, .bl _ => true | .bl _, .non => true | .non, .str _ => true | .str _, .non => true
  | .int _, .int _ => true | .bl _, .bl _ => true | .str _, .str _ => true
  | .int _, .str _ => true | .str _, .int _ => true | .bl _, .str _ => true | .str _, .bl _ => true
  | _, _ => false
def eqSc : U → U → Bool
  | .non, .non => true
  | .int i, .int j => decide (i = j)
  | .bl i, .bl j => decide (i = j)
  | .str i, .str j => decide (i = j)
  | _, _ => false
def eqD (G : Gp) (x y : U) (P : Bool → Prop) : Prop := match dat 20 G x, dat 20 G y with
  | some d, some e => SeqAt.shaped d = true ∧ SeqAt.shaped e = true ∧ P (PyData.eqv d e)
  | _, _ => False
def eqU (neg : Bool) (x y : U) (G : Gp) (Q : UK) : Prop := if scU x y = true then Q (.bl (if neg then !eqSc x y else eqSc x y)) G else eqD G x y fun b => Q (.bl (if neg then !b else b)) G
def fltU : U → Bool
  | .non => true | .bl _ => true | .int _ => true | .str _ => true | _ => false
def eqF : U → U → Bool
  | .non, .non => true
  | .bl a, .bl b => a == b
  | .bl a, .int b => (if a then 1 else 0) == b
  | .int a, .bl b => a == (if b then 1 else 0)
  | .int a, .int b => a == b
  | .str a, .str b => a == b
  | _, _ => false
def inF (x : U) (xs : List U) : Bool := xs.any fun y => eqF y x
def inU (neg : Bool) (x y : U) (G : Gp) (Q : UK) : Prop := match x, y with
  | .str a, .str b => (match a.cps.toList with
    | [c] => Q (.bl (if neg then !decide (c ∈ b.cps.toList) else decide (c ∈ b.cps.toList))) G
    | _ => Q (.bl (if neg then !(!(Builtin.Str.occurrences b a 0 b.length 1).isEmpty) else !(Builtin.Str.occurrences b a 0 b.length 1).isEmpty)) G)
  | x, y => match rdL G y with
    | some xs => fltU x = true ∧ xs.all fltU = true ∧ Q (.bl (if neg then !inF x xs else inF x xs)) G
    | none => False
def isU (neg : Bool) (x y : U) (G : Gp) (Q : UK) : Prop := match x, y with
  | .bl a, .bl b => Q (.bl (if neg then !decide (a = b) else decide (a = b))) G
  | .non, .non => Q (.bl (!neg)) G
  | .bl _, .non => Q (.bl neg) G
  | .int _, .non => Q (.bl neg) G
  | .str _, .non => Q (.bl neg) G
  | .tup _, .non => Q (.bl neg) G
  | .ref _, .non => Q (.bl neg) G
  | _, _ => False
def cmpU : CmpOp → R2U
  | .Eq => eqU false
  | .NotEq => eqU true
  | .Lt => intU (fun _ _ => True) fun i j => .bl (decide (i < j))
  | .LtE => intU (fun _ _ => True) fun i j => .bl (decide (i ≤ j))
  | .Gt => intU (fun _ _ => True) fun i j => .bl (decide (j < i))
  | .GtE => intU (fun _ _ => True) fun i j => .bl (decide (j ≤ i))
  | .In => inU false
  | .NotIn => inU true
  | .Is => isU false
  | .IsNot => isU true
section
variable {T : Tb} {X : Cx}
theorem scal_of {T : Tb} {K : PySem.W.Frag} {H : Hp} {x y : U} {xv yv : V} (s : scU x y = true) (rx : RU T K H x xv) (ry : RU T K H y yv) : scal xv yv = true ∧ decide (xv = yv) = eqSc x y := by
  cases x <;> cases y <;> first
    | exact absurd s Bool.false_ne_true
    | (cases rx; cases ry; exact ⟨rfl, by simp [eqSc]⟩)
theorem opl_eq (hu : X.A.units + 64 < cLine) : OpL T X (compareOp .Eq) (eqU false) :=
  ⟨_, op_eq.or (op_eqD hu), fun H G x y xv yv Q Qv ab rx ry h q => by
    unfold eqU at h
    split at h
    · rename_i s
      obtain ⟨h1, h2⟩ := scal_of s rx ry
      exact .inl ⟨h1, q _ _ (QV.same ab (.bl _) (by rw [h2]; exact h))⟩
    · unfold eqD at h
      split at h
      · rename_i d e hd he
        exact .inr ⟨d, e, dat_dp ab _ _ _ _ hd rx, dat_dp ab _ _ _ _ he ry, h.1, h.2.1, q _ _ (QV.same ab (.bl _) h.2.2)⟩
      · exact h.elim⟩
theorem opl_ne (hu : X.A.units + 64 < cLine) : OpL T X (compareOp .NotEq) (eqU true) :=
  ⟨_, op_ne.or (op_neD hu), fun H G x y xv yv Q Qv ab rx ry h q => by
    unfold eqU at h
    split at h
    · rename_i s
      obtain ⟨h1, h2⟩ := scal_of s rx ry
      exact .inl ⟨h1, q _ _ (QV.same ab (.bl _) (by rw [h2]; exact h))⟩
    · unfold eqD at h
      split at h
      · rename_i d e hd he
        exact .inr ⟨d, e, dat_dp ab _ _ _ _ hd rx, dat_dp ab _ _ _ _ he ry, h.1, h.2.1, q _ _ (QV.same ab (.bl _) h.2.2)⟩
      · exact h.elim⟩
theorem flt_of {T : Tb} {K : PySem.W.Frag} {H : Hp} {x : U} {xv : V} (f : fltU x = true) (r : RU T K H x xv) : flatV xv = true := by
  cases x <;> first
    | exact absurd f Bool.false_ne_true
    | (cases r; rfl)
theorem eqF_of {T : Tb} {K : PySem.W.Frag} {H : Hp} {x y : U} {xv yv : V} (f : fltU x = true) (g : fltU y = true) (rx : RU T K H x xv) (ry : RU T K H y yv) : eqV xv yv = eqF x y := by
  cases x <;> cases y <;> first
    | exact absurd f Bool.false_ne_true
    | exact absurd g Bool.false_ne_true
    | (cases rx; cases ry; rfl)
theorem flts_of {T : Tb} {K : PySem.W.Frag} {H : Hp} : ∀ {xs : List U} {vs : List V}, xs.all fltU = true → RUs T K H xs vs → vs.all flatV = true
  | [], _, _, r => by cases r; rfl
  | x :: xs, _, f, r => by
    cases r with
    | cons a b =>
      rw [List.all_cons, Bool.and_eq_true] at f
      rw [List.all_cons, flt_of f.1 a, flts_of f.2 b]
      rfl
theorem inF_of {T : Tb} {K : PySem.W.Frag} {H : Hp} {x : U} {xv : V} (f : fltU x = true) (rx : RU T K H x xv) : ∀ {xs : List U} {vs : List V}, xs.all fltU = true → RUs T K H xs vs → inV xv vs = inF x xs
  | [], _, _, r => by cases r; rfl
  | y :: xs, _, g, r => by
    cases r with
    | cons a b =>
      rw [List.all_cons, Bool.and_eq_true] at g
      have ih := inF_of f rx g.2 b
      unfold inV inF at ih ⊢
      rw [List.any_cons, List.any_cons, ih, eqF_of g.1 f a rx]
theorem rd_sq {K : PySem.W.Frag} {H : Hp} {G : Gp} {y : U} {yv : V} {xs : List U} (ab : Abs T K H G) (e : rdL G y = some xs) (r : RU T K H y yv) : ∃ p vs, yv = .ref p ∧ (SqL K H p vs ∨ SqT K H p vs) ∧ RUs T K H xs vs := by
  cases y with
  | tup us =>
    cases e
    cases r with
    | tup s r => exact ⟨_, _, rfl, .inr s.sq, r⟩
  | rl us =>
    cases e
    cases r with
    | rl s r => exact ⟨_, _, rfl, .inl s.sq, r⟩
  | ref a =>
    cases r
    obtain ⟨vs, h, r⟩ := ab.list e
    exact ⟨a, vs, rfl, .inl (.inl h), r⟩
  | _ => cases e
theorem opl_in : OpL T X (compareOp .In) (inU false) :=
  ⟨_, op_in_sign.or (op_in_str.or op_in_seq), fun H G x y xv yv Q Qv ab rx ry h q => by
    unfold inU at h
    split at h
    · rename_i a b
      cases rx; cases ry
      split at h
      · rename_i c e
        refine .inl ⟨c, b, ?_, rfl, q _ _ (QV.same ab (.bl _) h)⟩
        have : a = ⟨#[c]⟩ := by
          obtain ⟨l⟩ := a
          have e' : l = #[c] := by rw [← Array.toList_inj]; exact e
          rw [e']
        rw [this]
      · exact .inr (.inl ⟨a, b, rfl, rfl, q _ _ (QV.same ab (.bl _) h)⟩)
    · split at h
      · rename_i xs e
        obtain ⟨p, vs, rfl, s, r⟩ := rd_sq ab e ry
        exact .inr (.inr ⟨p, vs, rfl, s, flt_of h.1 rx, flts_of h.2.1 r, q _ _ (QV.same ab (.bl _) (by rw [inF_of h.1 rx h.2.1 r]; exact h.2.2))⟩)
      · exact h.elim⟩
theorem opl_notIn : OpL T X (compareOp .NotIn) (inU true) :=
  ⟨_, op_notIn_sign.or (op_notin_str.or op_notIn_seq), fun H G x y xv yv Q Qv ab rx ry h q => by
    unfold inU at h
    split at h
    · rename_i a b
      cases rx; cases ry
      split at h
      · rename_i c e
        refine .inl ⟨c, b, ?_, rfl, q _ _ (QV.same ab (.bl _) h)⟩
        have : a = ⟨#[c]⟩ := by
          obtain ⟨l⟩ := a
          have e' : l = #[c] := by rw [← Array.toList_inj]; exact e
          rw [e']
        rw [this]
      · exact .inr (.inl ⟨a, b, rfl, rfl, q _ _ (QV.same ab (.bl _) h)⟩)
    · split at h
      · rename_i xs e
        obtain ⟨p, vs, rfl, s, r⟩ := rd_sq ab e ry
        exact .inr (.inr ⟨p, vs, rfl, s, flt_of h.1 rx, flts_of h.2.1 r, q _ _ (QV.same ab (.bl _) (by rw [inF_of h.1 rx h.2.1 r]; exact h.2.2))⟩)
      · exact h.elim⟩
theorem opl_is : OpL T X (compareOp .Is) (isU false) :=
  ⟨_, op_isN.or op_isBl, fun H G x y xv yv Q Qv ab rx ry h q => by
    unfold isU at h
    split at h
    · cases rx; cases ry
      exact .inr ⟨_, _, rfl, rfl, q _ _ (QV.same ab (.bl _) h)⟩
    · cases rx; cases ry
      exact .inl ⟨rfl, q _ _ (QV.same ab (.bl _) h)⟩
    · cases rx; cases ry
      exact .inl ⟨rfl, q _ _ (QV.same ab (.bl _) h)⟩
    · cases rx; cases ry
      exact .inl ⟨rfl, q _ _ (QV.same ab (.bl _) h)⟩
    · cases rx; cases ry
      exact .inl ⟨rfl, q _ _ (QV.same ab (.bl _) h)⟩
    · cases rx; cases ry
      exact .inl ⟨rfl, q _ _ (QV.same ab (.bl _) h)⟩
    · cases rx; cases ry
      exact .inl ⟨rfl, q _ _ (QV.same ab (.bl _) h)⟩
    · exact h.elim⟩
theorem opl_isNot : OpL T X (compareOp .IsNot) (isU true) :=
  ⟨_, op_notN.or op_notBl, fun H G x y xv yv Q Qv ab rx ry h q => by
    unfold isU at h
    split at h
    · cases rx; cases ry
      exact .inr ⟨_, _, rfl, rfl, q _ _ (QV.same ab (.bl _) h)⟩
    · cases rx; cases ry
      exact .inl ⟨rfl, q _ _ (QV.same ab (.bl _) h)⟩
    · cases rx; cases ry
      exact .inl ⟨rfl, q _ _ (QV.same ab (.bl _) h)⟩
    · cases rx; cases ry
      exact .inl ⟨rfl, q _ _ (QV.same ab (.bl _) h)⟩
    · cases rx; cases ry
      exact .inl ⟨rfl, q _ _ (QV.same ab (.bl _) h)⟩
    · cases rx; cases ry
      exact .inl ⟨rfl, q _ _ (QV.same ab (.bl _) h)⟩
    · cases rx; cases ry
      exact .inl ⟨rfl, q _ _ (QV.same ab (.bl _) h)⟩
    · exact h.elim⟩
theorem opl_cmp (hu : X.A.units + 64 < cLine) : ∀ op : CmpOp, OpL T X (compareOp op) (cmpU op)
  | .Eq => opl_eq hu
  | .NotEq => opl_ne hu
  | .Lt => (opl_B0 op_lt).imp fun _ _ _ _ h => intU_rII h
  | .LtE => (opl_B0 op_le).imp fun _ _ _ _ h => intU_rII h
  | .Gt => (opl_B0 op_gt).imp fun _ _ _ _ h => intU_rII h
  | .GtE => (opl_B0 op_ge).imp fun _ _ _ _ h => intU_rII h
  | .In => opl_in
  | .NotIn => opl_notIn
  | .Is => opl_is
  | .IsNot => opl_isNot
end
end Y

namespace Y
open PySem PySem.Spec PyProof.Rows L2

/-! ### the program's own form -/
inductive Bi where
  | len | all | any | sum | abs | min | max | int | str | list | tuple | isi
  deriving DecidableEq
inductive Bm where
  | append | extend | startswith | split | join | sindex
  deriving DecidableEq
inductive Tg where
  | name (i : Nat)
  | tup (ts : List Tg)
mutual
inductive Ex where
  | var (i : Nat)
  | lit (u : U)
  | bin (op : Operator) (a b : Ex)
  | neg (a : Ex)
  | cmp (op : CmpOp) (a b : Ex)
  | chn (op op' : CmpOp) (a b c : Ex)
  | conj (a b : Ex)
  | disj (a b : Ex)
  | inv (a : Ex)
  | ite (c a b : Ex)
  | ix (a i : Ex)
  | slc (a : Ex) (lo hi : Exo)
  | tup (es : Exs)
  | lst (es : Exs)
  | emp
  | call (f : Nat) (es : Exs)
  | blt (b : Bi) (es : Exs)
  | mth (o : Ex) (m : Nat) (es : Exs)
  | btm (o : Ex) (m : Bm) (es : Exs)
  | new (c : Nat) (es : Exs)
  | att (o : Ex) (f : Nat)
  | lc (elt : Ex) (own : List Nat) (t : Tg) (it : It') (cond : Exo)
inductive Exs where
  | nil
  | cons (e : Ex) (r : Exs)
inductive Exo where
  | none
  | some (e : Ex)
inductive It' where
  | ex (e : Ex)
  | rng1 (e : Ex)
  | rng2 (a b : Ex)
end
mutual
inductive Sm where
  | pass
  | expr (e : Ex)
  | set (t : Tg) (e : Ex)
  | par (i j : Nat) (a b : Ex)
  | setA (o : Ex) (f : Nat) (e : Ex)
  | aug (i : Nat) (op : Operator) (e : Ex)
  | ret (e : Ex)
  | retN
  | ifs (c : Ex) (a b : Sms)
  | fors (t : Tg) (it : It') (b : Sms)
  | whl (c : Ex) (b : Sms)
  | brk
  | cnt
inductive Sms where
  | nil
  | cons (s : Sm) (r : Sms)
end

/-! ### built-ins above -/
abbrev R1U := List U → Gp → UK → Prop
def strsU : List U → Option (List Str)
  | [] => some []
  | .str z :: r => match strsU r with
    | some zs => some (z :: zs)
    | none => none
  | _ :: _ => none
def intsU : List U → Option (List Int)
  | [] => some []
  | .int z :: r => match intsU r with
    | some zs => some (z :: zs)
    | none => none
  | _ :: _ => none
def blsU : List U → Option (List Bool)
  | [] => some []
  | .bl z :: r => match blsU r with
    | some zs => some (z :: zs)
    | none => none
  | _ :: _ => none
def lsU (G : Gp) : U → Option (List U)
  | .ref a => lsG (G a)
  | .rl xs => some xs
  | _ => none
/-- the name of a value's built-in type -/
def tyU (G : Gp) : U → Option BT
  | .non => some .non
  | .bl _ => some .bool
  | .int _ => some .int
  | .str _ => some .str
  | .tup _ => some .tup
  | .rl _ => some .lst
  | .ref a => match G a with
    | some (.lst _) => some .lst
    | some (.dic _) => some .dic
    | _ => none
  | _ => none
def btsU : List U → Option (List BT)
  | [] => some []
  | .ty z :: r => match btsU r with
    | some zs => some (z :: zs)
    | none => none
  | _ :: _ => none
def lenU (x : U) (G : Gp) (Q : UK) : Prop := match x with
  | .str z => z.length ≤ sizeLine ∧ Q (.int z.length) G
  | x => match rdL G x with
    | some xs => Q (.int xs.length) G
    | none => False
def biU : Bi → R1U
  | .len, us, G, Q => match us with
    | [x] => lenU x G Q
    | _ => False
  | .all, us, G, Q => match us with
    | [x] => (match lsU G x with
      | some xs => match blsU xs with
        | some bs => Q (.bl (bs.all id)) G
        | none => False
      | none => False)
    | _ => False
  | .any, us, G, Q => match us with
    | [x] => (match lsU G x with
      | some xs => match blsU xs with
        | some bs => Q (.bl (bs.any id)) G
        | none => False
      | none => False)
    | _ => False
  | .sum, us, G, Q => match us with
    | [x] => (match lsU G x with
      | some xs => match intsU xs with
        | some ns => Q (.int ns.sum) G
        | none => False
      | none => False)
    | _ => False
  | .abs, us, G, Q => match us with
    | [.int i] => Q (.int (if i < 0 then -i else i)) G
    | _ => False
  | .min, us, G, Q => match us with
    | [.int i, .int j] => Q (.int (if j < i then j else i)) G
    | [x] => (match lsU G x with
      | some xs => match intsU xs with
        | some ns => 0 < ns.length ∧ ∀ m, m ∈ ns → (∀ y, y ∈ ns → m ≤ y) → Q (.int m) G
        | none => False
      | none => False)
    | _ => False
  | .max, us, G, Q => match us with
    | [.int i, .int j] => Q (.int (if j > i then j else i)) G
    | [x] => (match lsU G x with
      | some xs => match intsU xs with
        | some ns => 0 < ns.length ∧ ∀ m, m ∈ ns → (∀ y, y ∈ ns → y ≤ m) → Q (.int m) G
        | none => False
      | none => False)
    | _ => False
  | .int, us, G, Q => match us with
    | [.str z] => ∃ n, PySem.intText? z = some n ∧ z.length ≤ 640 ∧ Q (.int n) G
    | _ => False
  | .str, us, G, Q => match us with
    | [.int i] => i.natAbs.log2 < 1920 ∧ Q (.str (toString i)) G
    | _ => False
  | .list, us, G, Q => match us with
    | [x] => (match rdL G x with
      | some xs => ∀ p, G p = none → Q (.ref p) (put G p (.lst xs))
      | none => False)
    | _ => False
  | .tuple, us, G, Q => match us with
    | [x] => (match rdL G x with
      | some xs => Q (.tup xs) G
      | none => False)
    | _ => False
  | .isi, us, G, Q => match us with
    | [x, .ty n] => (match tyU G x with
      | some m => Q (.bl (m.sub n)) G
      | none => False)
    | [x, .tup ts] => (match tyU G x, btsU ts with
      | some m, some ns => Q (.bl (ns.any fun n => m.sub n)) G
      | _, _ => False)
    | _ => False
/-- is the receiver of that type -/
def tmU (m : Bm) (x : U) (G : Gp) : Prop := match m, x with
  | .append, .ref a => (lsG (G a)).isSome = true
  | .extend, .ref a => (lsG (G a)).isSome = true
  | .startswith, .str _ => True
  | .split, .str _ => True
  | .join, .str _ => True
  | .sindex, .str _ => True
  | _, _ => False
def bmU : Bm → U → R1U
  | .append, x, us, G, Q => match x, us with
    | .ref a, [y] => (match G a with
      | some (.lst xs) => xs.length < sizeLine ∧ Q .non (put G a (.lst (xs ++ [y])))
      | _ => False)
    | _, _ => False
  | .extend, x, us, G, Q => match x, us with
    | .ref a, [.ref b] => (match G a, G b with
      | some (.lst xs), some (.lst ys) => xs.length + ys.length ≤ sizeLine ∧ Q .non (put G a (.lst (xs ++ ys)))
      | _, _ => False)
    | _, _ => False
  | .startswith, x, us, G, Q => match x, us with
    | .str a, [.str b] => Q (.bl (Txt.startswith a b)) G
    | _, _ => False
  | .split, x, us, G, Q => match x, us with
    | .str a, [.str b] => (b.length == 0) = false ∧ a.length + 2 ≤ sizeLine ∧ ∀ p, G p = none → Q (.ref p) (put G p (.lst ((Txt.split a b).map U.str)))
    | _, _ => False
  | .join, x, us, G, Q => match x, us with
    | .str a, [y] => (match rdL G y with
      | some ys => match strsU ys with
        | some zs => (zs.map (·.length)).sum + zs.length * a.length ≤ 16777216 ∧ Q (.str (Txt.join a zs)) G
        | none => False
      | none => False)
    | _, _ => False
  | .sindex, x, us, G, Q => match x, us with
    | .str a, [.str b] => (match Txt.index0 a b with
      | some k => Q (.int (k : Nat)) G
      | none => False)
    | _, _ => False

def putN (f : Nat) (v : U) : List (Nat × U) → List (Nat × U)
  | [] => [(f, v)]
  | (g, u) :: r => if g = f then (f, v) :: r else (g, u) :: putN f v r

/-! ### what is wanted -/
structure Gm where
  fn : Nat → SpU
  ar : Nat → Nat
  mt : Nat → Nat → Option Nat
  ini : Nat → Option Nat
def isB (u : U) (P : Bool → Prop) : Prop := match u with
  | .bl b => P b
  | _ => False
mutual
def gU : Tg → TGU
  | .name i, x, σ, G, Q => Q (σ.set i (some x)) G
  | .tup ts, x, σ, G, Q => match x with
    | .tup xs => gsU ts xs σ G Q
    | _ => False
def gsU : List Tg → List U → SU → Gp → (SU → Gp → Prop) → Prop
  | [], [], σ, G, Q => Q σ G
  | t :: ts, x :: xs, σ, G, Q => gU t x σ G fun σ' G' => gsU ts xs σ' G' Q
  | _, _, _, _, _ => False
end
def wipeU (σ : SU) : List Nat → SU
  | [] => σ
  | v :: vs => (wipeU σ vs).set v none
def loopU (g : TGU) (b : TSU) (src : Gp → Prop) : List U → EU → SU → Gp → Prop
  | [], D, σ, G => src G ∧ D.nx σ G
  | x :: xs, D, σ, G => src G ∧ g x σ G fun σ' G' => b { nx := loopU g b src xs D, rt := D.rt, bk := D.nx, ct := loopU g b src xs D } σ' G'
def whU (c : TTU) (b : TSU) : Nat → EU → SU → Gp → Prop
  | 0, _, _, _ => False
  | n + 1, D, σ, G => c σ G fun k G1 => if k = true then b { nx := whU c b n D, rt := D.rt, bk := D.nx, ct := whU c b n D } σ G1 else D.nx σ G1
def lcU (g : TGU) (tt : TTU) (te : TEU) (src : Gp → Prop) (D : Addr) (σ : SU) (Q : Gp → Prop) : List U → List U → Gp → Prop
  | [], _, G => src G ∧ Q G
  | x :: xs, acc, G => src G ∧ g x σ G fun σ2 G2 => tt σ2 G2 fun b G3 => if b = true then te σ2 G3 fun y G4 => G4 D = some (.lst acc) ∧ acc.length < sizeLine ∧ lcU g tt te src D σ Q xs (acc ++ [y]) (put G4 D (.lst (acc ++ [y])))
    else lcU g tt te src D σ Q xs acc G3
abbrev TIU := SU → Gp → ((Gp → Prop) → List U → Gp → Prop) → Prop
def seqU (x : U) (G : Gp) (R : (Gp → Prop) → List U → Gp → Prop) : Prop := match x with
  | .tup xs => R (fun _ => True) xs G
  | .rl xs => R (fun _ => True) xs G
  | .str z => R (fun _ => True) (z.cps.toList.map fun c => .str ⟨#[c]⟩) G
  | .ref a => match lsG (G a) with
    | some xs => R (fun G' => lsG (G' a) = some xs) xs G
    | none => False
  | _ => False
def rngU (lo : Int) (n : Nat) : List U := (List.range n).map fun (k : Nat) => .int (lo + (k : Int))
def partU (lo : U) (P : Int → Prop) : Prop := match lo with
  | .int i => P i
  | _ => False
def cutU (xs : List U) (lo hi : Option Int) : List U := (xs.drop (HT.sIx xs.length 0 lo)).take (HT.sIx xs.length xs.length hi - HT.sIx xs.length 0 lo)
def slcU (x : U) (lo hi : Option Int) (G : Gp) (Q : UK) : Prop := match x with
  | .str z => z.length ≤ sizeLine ∧ Q (.str (cutS z lo hi)) G
  | .tup xs => Q (.tup (cutU xs lo hi)) G
  | .rl xs => ∀ p, G p = none → Q (.ref p) (put G p (.lst (cutU xs lo hi)))
  | .ref a => match lsG (G a) with
    | some xs => ∀ p, G p = none → Q (.ref p) (put G p (.lst (cutU xs lo hi)))
    | none => False
  | _ => False
def ixU (x y : U) (G : Gp) (Q : UK) : Prop := match x, y with
  | .str z, .int i => z.length ≤ sizeLine ∧ ∃ c, atI z.cps.toList i = some c ∧ Q (.str ⟨#[c]⟩) G
  | x, .int i => (match rdL G x with
    | some xs => (match atI xs i with
      | some v => Q v G
      | none => False)
    | none => False)
  | _, _ => False
def E0U : XS := fun _ _ _ _ => False
mutual
def wpE (Γ : Gm) : Ex → XS → TEU
  | .var i, _, σ, G, Q => match σ[i]? with
    | some (some u) => Q u G
    | _ => False
  | .lit u, _, _, G, Q => Q u G
  | .bin op a b, E, σ, G, Q => wpE Γ a E σ G fun x G1 => wpE Γ b E σ G1 fun y G2 => binU op x y G2 Q
  | .neg a, E, σ, G, Q => wpE Γ a E σ G fun x G1 => partU x fun i => Q (.int (-i)) G1
  | .cmp op a b, E, σ, G, Q => wpE Γ a E σ G fun x G1 => wpE Γ b E σ G1 fun y G2 => cmpU op x y G2 Q
  | .chn op op' a b c, E, σ, G, Q => wpE Γ a E σ G fun x G1 => wpE Γ b E σ G1 fun y G2 => cmpU op x y G2 fun u G3 => isB u fun k => if k = true then wpE Γ c E σ G3 fun z G4 => cmpU op' y z G4 Q else Q (.bl false) G3
  | .conj a b, E, σ, G, Q => wpE Γ a E σ G fun x G1 => isB x fun k => if k = true then wpE Γ b E σ G1 Q else Q (.bl false) G1
  | .disj a b, E, σ, G, Q => wpE Γ a E σ G fun x G1 => isB x fun k => if k = true then Q (.bl true) G1 else wpE Γ b E σ G1 Q
  | .inv a, E, σ, G, Q => wpE Γ a E σ G fun x G1 => isB x fun k => Q (.bl (!k)) G1
  | .ite c a b, E, σ, G, Q => wpE Γ c E σ G fun x G1 => isB x fun k => if k = true then wpE Γ a E σ G1 Q else wpE Γ b E σ G1 Q
  | .ix a i, E, σ, G, Q => wpE Γ a E σ G fun x G1 => wpE Γ i E σ G1 fun y G2 => ixU x y G2 Q
  | .slc a lo hi, E, σ, G, Q => wpE Γ a E σ G fun x G1 => wpO Γ lo E σ G1 fun l G2 => wpO Γ hi E σ G2 fun h G3 => slcU x l h G3 Q
  | .tup es, E, σ, G, Q => wpEs Γ es E σ G fun us G1 => us.length ≤ sizeLine ∧ Q (.tup us) G1
  | .lst es, E, σ, G, Q => wpEs Γ es E σ G fun us G1 => us.length ≤ sizeLine ∧ ∀ p, G1 p = none → Q (.ref p) (put G1 p (.lst us))
  | .emp, _, _, G, Q => ∀ p, G p = none → Q (.ref p) (put G p (.dic []))
  | .call f es, E, σ, G, Q => wpEs Γ es E σ G fun us G1 => us.length = Γ.ar f ∧ Γ.fn f us G1 Q fun c fs G' => E c fs σ G'
  | .blt b es, E, σ, G, Q => wpEs Γ es E σ G fun us G1 => biU b us G1 Q
  | .mth o m es, E, σ, G, Q => wpE Γ o E σ G fun x G1 => match x with
    | .ref a => match G1 a with
      | some (.ins c fs) => match Γ.mt c m with
        | some f => wpEs Γ es E σ G1 fun us G2 => us.length + 1 = Γ.ar f ∧ Γ.fn f (.ref a :: us) G2 Q fun c fs G' => E c fs σ G'
        | none => False
      | _ => False
    | _ => False
  | .btm o m es, E, σ, G, Q => wpE Γ o E σ G fun x G1 => tmU m x G1 ∧ wpEs Γ es E σ G1 fun us G2 => bmU m x us G2 Q
  | .new c es, E, σ, G, Q => wpEs Γ es E σ G fun us G1 => match Γ.ini c with
    | some f => us.length + 1 = Γ.ar f ∧ ∀ p, G1 p = none → Γ.fn f (.ref p :: us) (put G1 p (.ins c [])) (fun v G2 => v = .non ∧ Q (.ref p) G2) fun c fs G' => E c fs σ G'
    | none => False
  | .att o f, E, σ, G, Q => wpE Γ o E σ G fun x G1 => match x with
    | .ref a => match G1 a with
      | some (.ins c fs) => match fs.lookup f with
        | some v => Q v G1
        | none => False
      | _ => False
    | _ => False
  | .lc elt own t it cond, E, σ, G, Q => wpI Γ it E σ G fun src items G1 => ∀ D, G1 D = none → lcU (gU t) (wpC Γ cond) (wpE Γ elt E0U) src D (wipeU σ own) (Q (.ref D)) items [] (put G1 D (.lst []))
def wpEs (Γ : Gm) : Exs → XS → TAU
  | .nil, _, _, G, Q => Q [] G
  | .cons e r, E, σ, G, Q => wpE Γ e E σ G fun x G1 => wpEs Γ r E σ G1 fun xs G2 => Q (x :: xs) G2
def wpO (Γ : Gm) : Exo → XS → SU → Gp → (Option Int → Gp → Prop) → Prop
  | .none, _, _, G, Q => Q none G
  | .some e, E, σ, G, Q => wpE Γ e E σ G fun x G1 => partU x fun i => Q (some i) G1
def wpC (Γ : Gm) : Exo → TTU
  | .none, _, G, Q => Q true G
  | .some e, σ, G, Q => wpE Γ e E0U σ G fun x G1 => isB x fun k => Q k G1
def wpI (Γ : Gm) : It' → XS → TIU
  | .ex e, E, σ, G, R => wpE Γ e E σ G fun x G1 => seqU x G1 R
  | .rng1 e, E, σ, G, R => wpE Γ e E σ G fun x G1 => partU x fun j => -(2 ^ 62) ≤ j ∧ j < 2 ^ 62 ∧ R (fun _ => True) (rngU 0 j.toNat) G1
  | .rng2 a b, E, σ, G, R => wpE Γ a E σ G fun x G1 => wpE Γ b E σ G1 fun y G2 => partU x fun i => partU y fun j => -(2 ^ 62) ≤ i ∧ i < 2 ^ 62 ∧ -(2 ^ 62) ≤ j ∧ j < 2 ^ 62 ∧ R (fun _ => True) (rngU i (j - i).toNat) G2
end
def tstU (t : TEU) : TTU := fun σ G Q => t σ G fun x G1 => isB x fun k => Q k G1
mutual
def wpS (Γ : Gm) (E : XS) : Sm → TSU
  | .pass, D, σ, G => D.nx σ G
  | .expr e, D, σ, G => wpE Γ e E σ G fun _ G1 => D.nx σ G1
  | .set t e, D, σ, G => wpE Γ e E σ G fun x G1 => gU t x σ G1 D.nx
  | .par i j a b, D, σ, G => wpE Γ a E σ G fun x G1 => wpE Γ b E σ G1 fun y G2 => D.nx ((σ.set i (some x)).set j (some y)) G2
  | .setA o f e, D, σ, G => wpE Γ e E σ G fun y G1 => wpE Γ o E σ G1 fun x G2 => match x with
    | .ref a => match G2 a with
      | some (.ins c fs) => fs.length < 1000 ∧ D.nx σ (put G2 a (.ins c (putN f y fs)))
      | _ => False
    | _ => False
  | .aug i op e, D, σ, G => match σ[i]? with
    | some (some (.int x)) => op = .Add ∧ wpE Γ e E σ G fun y G1 => partU y fun j => D.nx (σ.set i (some (.int (x + j)))) G1
    | _ => False
  | .ret e, D, σ, G => wpE Γ e E σ G D.rt
  | .retN, D, _, G => D.rt .non G
  | .ifs c a b, D, σ, G => wpE Γ c E σ G fun x G1 => isB x fun k => if k = true then wpSs Γ E a D σ G1 else wpSs Γ E b D σ G1
  | .fors t it b, D, σ, G => wpI Γ it E σ G fun src items G1 => loopU (gU t) (wpSs Γ E b) src items D σ G1
  | .whl c b, D, σ, G => ∃ n, whU (tstU (wpE Γ c E)) (wpSs Γ E b) n D σ G
  | .brk, D, σ, G => D.bk σ G
  | .cnt, D, σ, G => D.ct σ G
def wpSs (Γ : Gm) (E : XS) : Sms → TSU
  | .nil, D, σ, G => D.nx σ G
  | .cons s r, D, σ, G => wpS Γ E s { nx := fun σ' G' => ∃ G2, Sub G2 G' ∧ wpSs Γ E r D σ' G2, rt := D.rt, bk := D.bk, ct := D.ct } σ G
end
end Y

namespace Y
open PySem PySem.Spec PyProof.Rows L2

/-! ### expressions, one by one -/
section
variable {T : Tb} {X : Cx} {a b c e : Expr} {ta tb tc te : TEU} {pos : Pos}
abbrev QE (T : Tb) (X : Cx) (e : Expr) (t : TEU) : Prop := PE X e (lE T X.K t)
abbrev QA (T : Tb) (X : Cx) (e : List Expr) (t : TAU) : Prop := PA X e (lA T X.K t)
abbrev QT (T : Tb) (X : Cx) (e : Expr) (t : TTU) : Prop := PT X e (lT T X.K t)
abbrev QS (T : Tb) (X : Cx) (s : Stmt) (t : TSU) : Prop := PS X s (lS T X.K t)
abbrev QSs (T : Tb) (X : Cx) (s : List Stmt) (t : TSU) : Prop := PSs X s (lS T X.K t)
theorem isB_of {K : PySem.W.Frag} {H : Hp} {x : U} {v : V} {P : Bool → Prop} (h : isB x P) (r : RU T K H x v) : ∃ k, v = .bl k ∧ x = .bl k ∧ P k := by
  unfold isB at h
  split at h
  · cases r; exact ⟨_, rfl, rfl, h⟩
  · exact h.elim
def varU (i : Nat) : TEU := fun σ G Q => match σ[i]? with
  | some (some u) => Q u G
  | _ => False
theorem q_var {i : Nat} {x : Str} (hN : X.N[i]? = some x) (hv : Vis X.env.scope x) (hd : (x == ("__debug__" : Str)) = false) (hcd : (x == ("__classdict__" : Str)) = false) : QE T X (.Name x pos) (varU i) :=
  PEi (pe_var hN hv hd hcd) fun σv H Qv h => by
    obtain ⟨σ, G, Q, rs, ab, h, q⟩ := h
    unfold varU at h
    split at h
    · rename_i u e
      obtain ⟨v, e', r⟩ := rs.2 i u e
      exact ⟨v, e', q v H (QV.same ab r h)⟩
    · exact h.elim
theorem q_con {u : U} {v : V} (h : PE X e (tC v)) (r : ∀ H, RU T X.K H u v) : QE T X e (fun _ G Q => Q u G) :=
  PEi h fun σv H Qv h => by
    obtain ⟨σ, G, Q, rs, ab, h, q⟩ := h
    exact q v H (QV.same ab (r H) h)
theorem q_op {op : Operator} {r : R2U} (ho : OpL T X (binaryOp op) r) (ha : QE T X a ta) (hb : QE T X b tb) : QE T X (.BinOp a op b pos) (fun σ G Q => ta σ G fun x G1 => tb σ G1 fun y G2 => r x y G2 Q) := by
  obtain ⟨r0, h0, i0⟩ := ho
  refine PEi (pe_op h0 ha hb) fun σv H Qv h => ?_
  obtain ⟨σ, G, Q, rs, ab, h, q⟩ := h
  refine ⟨σ, G, _, rs, ab, h, fun xv H1 ⟨x, G1, t1, ab1, rx, h1⟩ => ⟨σ, G1, _, rs.mono t1, ab1, h1, fun yv H2 ⟨y, G2, t2, ab2, ry, h2⟩ => ?_⟩⟩
  exact i0 H2 G2 x y xv yv Q Qv ab2 (RU.mono t2 _ _ rx) ry h2 fun v H' z => q v H' (z.from (t1.trans t2))
/-- the comparison's reading below -/
theorem cmp_below {op : CmpOp} {r : R2U} {r0 : R2} (i0 : ImpR T X.K r0 r) (σv : L2.St) (H : Hp) (Qv : VK) (h : lE T X.K (fun σ G Q => ta σ G fun x G1 => tb σ G1 fun y G2 => r x y G2 Q) σv H Qv) : tOp r0 (lE T X.K ta) (lE T X.K tb) σv H Qv := by
  obtain ⟨σ, G, Q, rs, ab, h, q⟩ := h
  refine ⟨σ, G, _, rs, ab, h, fun xv H1 ⟨x, G1, t1, ab1, rx, h1⟩ => ⟨σ, G1, _, rs.mono t1, ab1, h1, fun yv H2 ⟨y, G2, t2, ab2, ry, h2⟩ => ?_⟩⟩
  exact i0 H2 G2 x y xv yv Q Qv ab2 (RU.mono t2 _ _ rx) ry h2 fun v H' z => q v H' (z.from (t1.trans t2))
theorem q_cmp {op : CmpOp} {r : R2U} (ho : OpL T X (compareOp op) r) (ha : QE T X a ta) (hb : QE T X b tb) (hm : behindInMarks op b = false) : QE T X (.Compare a [op] [b] pos) (fun σ G Q => ta σ G fun x G1 => tb σ G1 fun y G2 => r x y G2 Q) := by
  obtain ⟨r0, h0, i0⟩ := ho
  exact PEi (pe_cmpR h0 ha hb hm) (cmp_below (op := op) i0)
/-- a value's test from its reading -/
theorem lT_tst {t : TEU} {σv : L2.St} {H : Hp} {Qv : Bool → Hp → Prop} (h : lT T X.K (tstU t) σv H Qv) : lE T X.K t σv H (fun x H' => ∃ k, x = .bl k ∧ Qv k H') := by
  obtain ⟨σ, G, Q, rs, ab, h, q⟩ := h
  refine ⟨σ, G, _, rs, ab, h, fun v H' ⟨x, G', t', ab', r, z⟩ => ?_⟩
  obtain ⟨k, e, _, z⟩ := isB_of z r
  exact ⟨k, e, q _ _ ⟨G', t', ab', z⟩⟩
theorem qt_val {t : TEU} (h : QE T X e t) (he : ∀ whole, isTrue e X.env whole = (do let v ← whole; standAt e.pos; holding [v] (truthy v))) : QT T X e (tstU t) :=
  PTi (pt_val h he) fun σv H Qv h => lT_tst h
theorem qt_cmp {op : CmpOp} {r : R2U} (ho : OpL T X (compareOp op) r) (ha : QE T X a ta) (hb : QE T X b tb) (hm : behindInMarks op b = false) : QT T X (.Compare a [op] [b] pos) (tstU fun σ G Q => ta σ G fun x G1 => tb σ G1 fun y G2 => r x y G2 Q) := by
  obtain ⟨r0, h0, i0⟩ := ho
  exact PTi (pt_cmpR h0 ha hb hm) fun σv H Qv h => cmp_below (op := op) i0 _ _ _ (lT_tst h)
def chnU (r r' : R2U) (ta tb tc : TEU) : TEU := fun σ G Q => ta σ G fun x G1 => tb σ G1 fun y G2 => r x y G2 fun u G3 => isB u fun k => if k = true then tc σ G3 fun z G4 => r' y z G4 Q else Q (.bl false) G3
theorem chn_below {r r' : R2U} {r0 r1 : R2} (i0 : ImpR T X.K r0 r) (i1 : ImpR T X.K r1 r') (σv : L2.St) (H : Hp) (Qv : VK) (h : lE T X.K (chnU r r' ta tb tc) σv H Qv) : tChain r0 r1 (lE T X.K ta) (lE T X.K tb) (lE T X.K tc) σv H Qv := by
  obtain ⟨σ, G, Q, rs, ab, h, q⟩ := h
  refine ⟨σ, G, _, rs, ab, h, fun xv H1 ⟨x, G1, t1, ab1, rx, h1⟩ => ⟨σ, G1, _, rs.mono t1, ab1, h1, fun yv H2 ⟨y, G2, t2, ab2, ry, h2⟩ => ?_⟩⟩
  refine i0 H2 G2 x y xv yv _ _ ab2 (RU.mono t2 _ _ rx) ry h2 fun v H3 ⟨u, G3, t3, ab3, ru, h3⟩ => ?_
  obtain ⟨k, ek, _, h3⟩ := isB_of h3 ru
  refine ⟨k, ek, ?_⟩
  cases k with
  | false => exact q _ _ ⟨.bl false, G3, (t1.trans t2).trans t3, ab3, .bl _, h3⟩
  | true =>
    refine ⟨σ, G3, _, rs.mono ((t1.trans t2).trans t3), ab3, h3, fun zv H4 ⟨z, G4, t4, ab4, rz, h4⟩ => ?_⟩
    exact i1 H4 G4 y z yv zv Q Qv ab4 (RU.mono (t3.trans t4) _ _ ry) rz h4 fun v H' w => q v H' (w.from (((t1.trans t2).trans t3).trans t4))
theorem q_chn {op op' : CmpOp} {r r' : R2U} (ho : OpL T X (compareOp op) r) (ho' : OpL T X (compareOp op') r') (ha : QE T X a ta) (hb : QE T X b tb) (hc : QE T X c tc) (hm : lastMarks [op, op'] [b, c] = false) : QE T X (.Compare a [op, op'] [b, c] pos) (chnU r r' ta tb tc) := by
  obtain ⟨r0, h0, i0⟩ := ho
  obtain ⟨r1, h1, i1⟩ := ho'
  exact PEi (pe_chain h0 h1 ha hb hc hm) (chn_below i0 i1)
theorem qt_chn {op op' : CmpOp} {r r' : R2U} (ho : OpL T X (compareOp op) r) (ho' : OpL T X (compareOp op') r') (ha : QE T X a ta) (hb : QE T X b tb) (hc : QE T X c tc) (hm : lastMarks [op, op'] [b, c] = false) : QT T X (.Compare a [op, op'] [b, c] pos) (tstU (chnU r r' ta tb tc)) := by
  obtain ⟨r0, h0, i0⟩ := ho
  obtain ⟨r1, h1, i1⟩ := ho'
  exact PTi (pt_chain h0 h1 ha hb hc hm) fun σv H Qv h => chn_below i0 i1 _ _ _ (lT_tst h)
def conjU (ta tb : TEU) : TEU := fun σ G Q => ta σ G fun x G1 => isB x fun k => if k = true then tb σ G1 Q else Q (.bl false) G1
def disjU (ta tb : TEU) : TEU := fun σ G Q => ta σ G fun x G1 => isB x fun k => if k = true then Q (.bl true) G1 else tb σ G1 Q
def invU (ta : TEU) : TEU := fun σ G Q => ta σ G fun x G1 => isB x fun k => Q (.bl (!k)) G1
def iteU (tc ta tb : TEU) : TEU := fun σ G Q => tc σ G fun x G1 => isB x fun k => if k = true then ta σ G1 Q else tb σ G1 Q
theorem q_and {rest : List Expr} (ha : QE T X a ta) (hb : QE T X (.BoolOp .And (b :: rest) pos) tb) : QE T X (.BoolOp .And (a :: b :: rest) pos) (conjU ta tb) :=
  PEi (pe_and ha hb) fun σv H Qv h => by
    obtain ⟨σ, G, Q, rs, ab, h, q⟩ := h
    refine ⟨σ, G, _, rs, ab, h, fun xv H1 ⟨x, G1, t1, ab1, rx, h1⟩ => ?_⟩
    obtain ⟨k, e, ex, h1⟩ := isB_of h1 rx
    refine ⟨k, e, ?_⟩
    cases k with
    | true => exact ⟨σ, G1, Q, rs.mono t1, ab1, h1, fun v H' z => q v H' (z.from t1)⟩
    | false => exact q _ _ ⟨.bl false, G1, t1, ab1, .bl _, h1⟩
theorem q_or {rest : List Expr} (ha : QE T X a ta) (hb : QE T X (.BoolOp .Or (b :: rest) pos) tb) : QE T X (.BoolOp .Or (a :: b :: rest) pos) (disjU ta tb) :=
  PEi (pe_or ha hb) fun σv H Qv h => by
    obtain ⟨σ, G, Q, rs, ab, h, q⟩ := h
    refine ⟨σ, G, _, rs, ab, h, fun xv H1 ⟨x, G1, t1, ab1, rx, h1⟩ => ?_⟩
    obtain ⟨k, e, ex, h1⟩ := isB_of h1 rx
    refine ⟨k, e, ?_⟩
    cases k with
    | false => exact ⟨σ, G1, Q, rs.mono t1, ab1, h1, fun v H' z => q v H' (z.from t1)⟩
    | true => exact q _ _ ⟨.bl true, G1, t1, ab1, .bl _, h1⟩
theorem q_one {op : BoolOp} (ha : QE T X a ta) : QE T X (.BoolOp op [a] pos) ta := pe_one ha
theorem q_not (ha : QE T X a ta) : QE T X (.UnaryOp .Not a pos) (invU ta) :=
  PEi (pe_not ha) fun σv H Qv h => by
    obtain ⟨σ, G, Q, rs, ab, h, q⟩ := h
    refine ⟨σ, G, _, rs, ab, h, fun xv H1 ⟨x, G1, t1, ab1, rx, h1⟩ => ?_⟩
    obtain ⟨k, e, ex, h1⟩ := isB_of h1 rx
    exact ⟨k, e, q _ _ ⟨.bl (!k), G1, t1, ab1, .bl _, h1⟩⟩
theorem qt_not (ha : QT T X a (tstU ta)) : QT T X (.UnaryOp .Not a pos) (tstU (invU ta)) :=
  PTi (pt_not ha) fun σv H Qv h => by
    obtain ⟨σ, G, Q, rs, ab, h, q⟩ := h
    refine ⟨σ, G, fun k G1 => Q (!k) G1, rs, ab, h, fun k H1 ⟨G1, t1, ab1, h1⟩ => ?_⟩
    exact q _ _ ⟨G1, t1, ab1, h1⟩
abbrev QW (T : Tb) (X : Cx) (e : Expr) (t : TTU) : Prop := PW X e (lT T X.K t)
theorem qw_and1 (ha : QT T X a (tstU ta)) : QW T X (.BoolOp .And [a] pos) (tstU ta) := pw_and1 ha
theorem qw_or1 (ha : QT T X a (tstU ta)) : QW T X (.BoolOp .Or [a] pos) (tstU ta) := pw_or1 ha
theorem isB_bl {k : Bool} {P : Bool → Prop} : isB (.bl k) P = P k := rfl
theorem qw_and {rest : List Expr} (ha : QT T X a (tstU ta)) (hb : QW T X (.BoolOp .And (b :: rest) pos) (tstU tb)) : QW T X (.BoolOp .And (a :: b :: rest) pos) (tstU (conjU ta tb)) :=
  PWi (pw_and ha hb) fun σv H Qv h => by
    obtain ⟨σ, G, Q, rs, ab, h, q⟩ := h
    refine ⟨σ, G, fun k G1 => if k = true then tstU tb σ G1 Q else Q false G1, rs, ab, ?_, fun k H1 ⟨G1, t1, ab1, h1⟩ => ?_⟩
    · exact h
    · cases k with
      | true => exact ⟨σ, G1, Q, rs.mono t1, ab1, h1, fun v H' z => q v H' (z.from t1)⟩
      | false => exact q _ _ ⟨G1, t1, ab1, h1⟩
theorem qw_or {rest : List Expr} (ha : QT T X a (tstU ta)) (hb : QW T X (.BoolOp .Or (b :: rest) pos) (tstU tb)) : QW T X (.BoolOp .Or (a :: b :: rest) pos) (tstU (disjU ta tb)) :=
  PWi (pw_or ha hb) fun σv H Qv h => by
    obtain ⟨σ, G, Q, rs, ab, h, q⟩ := h
    refine ⟨σ, G, fun k G1 => if k = true then Q true G1 else tstU tb σ G1 Q, rs, ab, ?_, fun k H1 ⟨G1, t1, ab1, h1⟩ => ?_⟩
    · exact h
    · cases k with
      | false => exact ⟨σ, G1, Q, rs.mono t1, ab1, h1, fun v H' z => q v H' (z.from t1)⟩
      | true => exact q _ _ ⟨G1, t1, ab1, h1⟩
theorem q_ite (hc : QT T X c (tstU tc)) (ha : QE T X a ta) (hb : QE T X b tb) : QE T X (.IfExp c a b pos) (iteU tc ta tb) :=
  PEi (pe_ifExp hc ha hb) fun σv H Qv h => by
    obtain ⟨σ, G, Q, rs, ab, h, q⟩ := h
    refine ⟨σ, G, fun k G1 => if k = true then ta σ G1 Q else tb σ G1 Q, rs, ab, h, fun k H1 ⟨G1, t1, ab1, h1⟩ => ?_⟩
    cases k with
    | true => exact ⟨σ, G1, Q, rs.mono t1, ab1, h1, fun v H' z => q v H' (z.from t1)⟩
    | false => exact ⟨σ, G1, Q, rs.mono t1, ab1, h1, fun v H' z => q v H' (z.from t1)⟩
theorem partU_of {K : PySem.W.Frag} {H : Hp} {x : U} {v : V} {P : Int → Prop} (h : partU x P) (r : RU T K H x v) : ∃ i, v = .int i ∧ x = .int i ∧ P i := by
  unfold partU at h
  split at h
  · cases r; exact ⟨_, rfl, rfl, h⟩
  · exact h.elim
theorem q_neg (ha : QE T X a ta) : QE T X (.UnaryOp .USub a pos) (fun σ G Q => ta σ G fun x G1 => partU x fun i => Q (.int (-i)) G1) :=
  PEi (pe_un un_neg ha) fun σv H Qv h => by
    obtain ⟨σ, G, Q, rs, ab, h, q⟩ := h
    refine ⟨σ, G, _, rs, ab, h, fun xv H1 ⟨x, G1, t1, ab1, rx, h1⟩ => ?_⟩
    obtain ⟨i, e, _, h1⟩ := partU_of h1 rx
    exact ⟨i, e, q _ _ ⟨.int (-i), G1, t1, ab1, .int _, h1⟩⟩
/-! ### items and slices -/
theorem cut_RUs {K : PySem.W.Frag} {H : Hp} {us : List U} {vs : List V} (r : RUs T K H us vs) (lo hi : Option Int) : RUs T K H (cutU us lo hi) (cutV vs lo hi) := by
  unfold cutU cutV
  rw [r.length]
  exact (r.drop _).take _
theorem at_RUs {K : PySem.W.Frag} {H : Hp} {us : List U} {vs : List V} {i : Int} {u : U} (r : RUs T K H us vs) (h : atI us i = some u) : ∃ v, atI vs i = some v ∧ RU T K H u v := by
  unfold atI at h ⊢
  rw [← r.length]
  cases e : ixN us.length i with
  | none => rw [e] at h; cases h
  | some j => rw [e] at h; exact r.get h
theorem ix_imp : ImpR T X.K (rIx X.K) ixU := fun H G x y xv yv Q Qv ab rx ry h q => by
  unfold ixU at h
  split at h
  · cases rx; cases ry
    obtain ⟨hz, c, e, h⟩ := h
    exact .inr (.inr ⟨_, _, c, rfl, rfl, hz, e, q _ _ (QV.same ab (.str _) h)⟩)
  · cases ry
    split at h
    · rename_i xs e
      obtain ⟨p, vs, rfl, s, r⟩ := rd_sq ab e rx
      split at h
      · rename_i v ea
        obtain ⟨w, ew, rw'⟩ := at_RUs r ea
        rcases s with s | s
        · exact .inl ⟨p, vs, _, w, rfl, rfl, s, ew, q _ _ (QV.same ab rw' h)⟩
        · exact .inr (.inl ⟨p, vs, _, w, rfl, rfl, s, ew, q _ _ (QV.same ab rw' h)⟩)
      · exact h.elim
    · exact h.elim
  · exact h.elim
theorem q_ix (ha : QE T X a ta) (hb : QE T X b tb) (hs : PlainIx b) : QE T X (.Subscript a b pos) (fun σ G Q => ta σ G fun x G1 => tb σ G1 fun y G2 => ixU x y G2 Q) :=
  PEi (pe_ix ix_seq ha hb hs) (cmp_below (op := .Eq) ix_imp)
abbrev TOU := SU → Gp → (Option Int → Gp → Prop) → Prop
def lO (T : Tb) (K : PySem.W.Frag) (t : TOU) : TO := fun σv H Qv => ∃ σ G Q, RS T K H σ σv ∧ Abs T K H G ∧ t σ G Q ∧ ∀ v H', (∃ G', TL K H H' ∧ Abs T K H' G' ∧ Q v G') → Qv v H'
theorem POi {X : Cx} {e : Option Expr} {t t' : TO} (h : PO X e t') (i : ∀ σ H Q, t σ H Q → t' σ H Q) : PO X e t := ⟨fun pins s σ H Q I q => h.run pins s σ H Q I (i σ H Q q)⟩
theorem qo_none : PO X none (lO T X.K fun _ G Q => Q none G) := POi po_none fun σv H Qv h => by
  obtain ⟨σ, G, Q, rs, ab, h, q⟩ := h
  exact q _ _ ⟨G, TL.refl H, ab, h⟩
theorem qo_some (ha : QE T X a ta) : PO X (some a) (lO T X.K fun σ G Q => ta σ G fun x G1 => partU x fun i => Q (some i) G1) := POi (po_some ha) fun σv H Qv h => by
  obtain ⟨σ, G, Q, rs, ab, h, q⟩ := h
  refine ⟨σ, G, _, rs, ab, h, fun xv H1 ⟨x, G1, t1, ab1, rx, h1⟩ => ?_⟩
  obtain ⟨i, e, _, h1⟩ := partU_of h1 rx
  exact ⟨i, e, q _ _ ⟨G1, t1, ab1, h1⟩⟩
theorem slc_imp {lo hi : Option Int} {H : Hp} {G : Gp} {x : U} {xv : V} {Q : UK} {Qv : VK} (ab : Abs T X.K H G) (rx : RU T X.K H x xv) (h : slcU x lo hi G Q) (q : ∀ v H', QV T X.K H Q v H' → Qv v H') :
    rSlL X.K xv lo hi H Qv ∨ rSlA X.K xv lo hi H Qv ∨ rSlS xv lo hi H Qv := by
  unfold slcU at h
  split at h
  · cases rx
    exact .inr (.inr ⟨_, rfl, h.1, q _ _ (QV.same ab (.str _) h.2)⟩)
  · rename_i us
    cases rx with
    | @tup p vs _ s r =>
      refine .inr (.inl ⟨p, vs, rfl, s.sq, fun hw => ?_, fun hw p' n => q _ _ (QV.tup ab n (cut_RUs r lo hi) h)⟩)
      refine q _ _ (QV.same ab (x := .tup us) (.tup s r) ?_)
      have e : cutU us lo hi = us := by
        unfold cutU
        rw [r.length, hw.1, hw.2, ← r.length, List.drop_zero, Nat.sub_zero, List.take_length]
      rw [e] at h
      exact h
  · cases rx with
    | rl s r => exact .inl ⟨_, _, rfl, s.sq, fun p n => q _ _ (QV.lst ab n (cut_RUs r lo hi) h)⟩
  · cases rx
    split at h
    · rename_i xs e
      obtain ⟨vs, hr, r⟩ := ab.list e
      exact .inl ⟨_, vs, rfl, .inl hr, fun p n => q _ _ (QV.lst ab n (cut_RUs r lo hi) h)⟩
    · exact h.elim
  · exact h.elim
theorem q_slc {lo hi : Option Expr} {tl th : TOU} {p2 : Pos} (ha : QE T X a ta) (hl : PO X lo (lO T X.K tl)) (hh : PO X hi (lO T X.K th)) : QE T X (.Subscript a (.Slice lo hi none p2) pos) (fun σ G Q => ta σ G fun x G1 => tl σ G1 fun l G2 => th σ G2 fun h G3 => slcU x l h G3 Q) :=
  PEi (pe_slice (sl_list.or (sl_tupA.or sl_str)) ha hl hh) fun σv H Qv h => by
    obtain ⟨σ, G, Q, rs, ab, h, q⟩ := h
    refine ⟨σ, G, _, rs, ab, h, fun xv H1 ⟨x, G1, t1, ab1, rx, h1⟩ => ⟨σ, G1, _, rs.mono t1, ab1, h1, fun l H2 ⟨G2, t2, ab2, h2⟩ => ⟨σ, G2, _, rs.mono (t1.trans t2), ab2, h2, fun u H3 ⟨G3, t3, ab3, h3⟩ => ?_⟩⟩⟩
    exact slc_imp ab3 (RU.mono (t2.trans t3) _ _ rx) h3 fun v H' z => q v H' (z.from ((t1.trans t2).trans t3))
/-! ### argument lists, displays -/
theorem qa_nil : QA T X [] (fun _ G Q => Q [] G) := PAi pa_nil fun σv H Qv h => by
  obtain ⟨σ, G, Q, rs, ab, h, q⟩ := h
  exact q _ _ ⟨[], G, TL.refl H, ab, .nil, h⟩
theorem qa_cons {es : List Expr} {ts : TAU} (ha : QE T X a ta) (hr : QA T X es ts) (hs : starEach (a :: es) X.env = (false, eval a X.env) :: starEach es X.env) : QA T X (a :: es) (fun σ G Q => ta σ G fun x G1 => ts σ G1 fun xs G2 => Q (x :: xs) G2) :=
  PAi (pa_cons ha hr hs) fun σv H Qv h => by
    obtain ⟨σ, G, Q, rs, ab, h, q⟩ := h
    refine ⟨σ, G, _, rs, ab, h, fun xv H1 ⟨x, G1, t1, ab1, rx, h1⟩ => ⟨σ, G1, _, rs.mono t1, ab1, h1, fun vs H2 ⟨xs, G2, t2, ab2, r2, h2⟩ => ?_⟩⟩
    exact q _ _ ⟨x :: xs, G2, t1.trans t2, ab2, .cons (RU.mono t2 _ _ rx) r2, h2⟩
theorem q_tup {es : List Expr} {ts : TAU} {k : Nat} (h : QA T X es ts) : QE T X (.Tuple es k pos) (fun σ G Q => ts σ G fun us G1 => us.length ≤ sizeLine ∧ Q (.tup us) G1) :=
  PEi (pe_tup h) fun σv H Qv h => by
    obtain ⟨σ, G, Q, rs, ab, h, q⟩ := h
    refine ⟨σ, G, _, rs, ab, h, fun vs H1 ⟨us, G1, t1, ab1, r1, h1⟩ => ⟨by rw [← r1.length]; exact h1.1, fun p n => ?_⟩⟩
    exact q _ _ ((QV.tup ab1 n r1 h1.2).from t1)
theorem q_lst {es : List Expr} {ts : TAU} (h : QA T X es ts) : QE T X (.List es pos) (fun σ G Q => ts σ G fun us G1 => us.length ≤ sizeLine ∧ ∀ p, G1 p = none → Q (.ref p) (put G1 p (.lst us))) :=
  PEi (pe_lst h) fun σv H Qv h => by
    obtain ⟨σ, G, Q, rs, ab, h, q⟩ := h
    refine ⟨σ, G, _, rs, ab, h, fun vs H1 ⟨us, G1, t1, ab1, r1, h1⟩ => ⟨by rw [← r1.length]; exact h1.1, fun p n => ?_⟩⟩
    exact q _ _ ((QV.lst ab1 n r1 h1.2).from t1)
theorem q_emp : QE T X (.Dict [] [] pos) (fun _ G Q => ∀ p, G p = none → Q (.ref p) (put G p (.dic []))) :=
  PEi pe_dnewK fun σv H Qv h => by
    obtain ⟨σ, G, Q, rs, ab, h, q⟩ := h
    exact fun p n => q _ _ ⟨.ref p, put G p (.dic []), TL.new n, ab.put (by rw [n]; rfl) (.inl ⟨[], upd_same, .nil⟩), .ref p, h p (ab.free n)⟩
end
/-! ### built-ins -/
def CallL (T : Tb) (X : Cx) (f : Value) (rU : R1U) : Prop := ∃ r, CallR X f r ∧ ∀ (H : Hp) (G : Gp) (us : List U) (vs : List V) (Q : UK) (Qv : VK), Abs T X.K H G → RUs T X.K H us vs → rU us G Q → (∀ v H', QV T X.K H Q v H' → Qv v H') → r vs H Qv
def MtL (T : Tb) (X : Cx) (id : String) (rU : U → R1U) : Prop := ∃ r, MtR X id r ∧ ∀ (H : Hp) (G : Gp) (x : U) (xv : V) (us : List U) (vs : List V) (Q : UK) (Qv : VK), Abs T X.K H G → RU T X.K H x xv → RUs T X.K H us vs → rU x us G Q → (∀ v H', QV T X.K H Q v H' → Qv v H') → r xv vs H Qv
section
variable {T : Tb} {X : Cx}
theorem CallR.or {f : Value} {r r' : List V → Hp → VK → Prop} (h : CallR X f r) (h' : CallR X f r') : CallR X f (fun x H Q => r x H Q ∨ r' x H Q) := by
  intro pins s σ H xs us Q I rs q
  rcases q with q | q
  · exact h pins s σ H xs us Q I rs q
  · exact h' pins s σ H xs us Q I rs q
theorem RUs.one {K : PySem.W.Frag} {H : Hp} {x : U} {vs : List V} (r : RUs T K H [x] vs) : ∃ v, vs = [v] ∧ RU T K H x v := by
  cases r with
  | cons a b => cases b; exact ⟨_, rfl, a⟩
theorem RUs.two {K : PySem.W.Frag} {H : Hp} {x y : U} {vs : List V} (r : RUs T K H [x, y] vs) : ∃ v w, vs = [v, w] ∧ RU T K H x v ∧ RU T K H y w := by
  cases r with
  | cons a b =>
    cases b with
    | cons b c => cases c; exact ⟨_, _, rfl, a, b⟩
theorem ints_RUs {K : PySem.W.Frag} {H : Hp} : ∀ {us : List U} {vs : List V} {ns : List Int}, intsU us = some ns → RUs T K H us vs → vs = ns.map V.int
  | [], _, _, e, r => by cases r; cases e; rfl
  | .int i :: us, _, _, e, r => by
    cases r with
    | cons a b =>
      unfold intsU at e
      split at e
      · rename_i zs ez
        cases e
        cases a
        rw [ints_RUs ez b]
        rfl
      · cases e
  | .non :: _, _, _, e, _ | .bl _ :: _, _, _, e, _ | .str _ :: _, _, _, e, _ | .tup _ :: _, _, _, e, _ | .rl _ :: _, _, _, e, _ | .ref _ :: _, _, _, e, _ | .ty _ :: _, _, _, e, _ | .cls _ :: _, _, _, e, _ => by cases e
theorem bls_RUs {K : PySem.W.Frag} {H : Hp} : ∀ {us : List U} {vs : List V} {ns : List Bool}, blsU us = some ns → RUs T K H us vs → vs = ns.map V.bl
  | [], _, _, e, r => by cases r; cases e; rfl
  | .bl i :: us, _, _, e, r => by
    cases r with
    | cons a b =>
      unfold blsU at e
      split at e
      · rename_i zs ez
        cases e
        cases a
        rw [bls_RUs ez b]
        rfl
      · cases e
  | .non :: _, _, _, e, _ | .int _ :: _, _, _, e, _ | .str _ :: _, _, _, e, _ | .tup _ :: _, _, _, e, _ | .rl _ :: _, _, _, e, _ | .ref _ :: _, _, _, e, _ | .ty _ :: _, _, _, e, _ | .cls _ :: _, _, _, e, _ => by cases e
theorem strs_RUs {K : PySem.W.Frag} {H : Hp} : ∀ {us : List U} {vs : List V} {ns : List Str}, strsU us = some ns → RUs T K H us vs → vs = ns.map V.str
  | [], _, _, e, r => by cases r; cases e; rfl
  | .str i :: us, _, _, e, r => by
    cases r with
    | cons a b =>
      unfold strsU at e
      split at e
      · rename_i zs ez
        cases e
        cases a
        rw [strs_RUs ez b]
        rfl
      · cases e
  | .non :: _, _, _, e, _ | .int _ :: _, _, _, e, _ | .bl _ :: _, _, _, e, _ | .tup _ :: _, _, _, e, _ | .rl _ :: _, _, _, e, _ | .ref _ :: _, _, _, e, _ | .ty _ :: _, _, _, e, _ | .cls _ :: _, _, _, e, _ => by cases e
end
end Y

namespace Y
open PySem PySem.Spec PyProof.Rows L2

/-! ### the built-ins' names and values -/
def Bi.nm : Bi → Str
  | .len => "len" | .all => "all" | .any => "any" | .sum => "sum" | .abs => "abs" | .min => "min" | .max => "max" | .int => "int" | .str => "str" | .list => "list" | .tuple => "tuple" | .isi => "isinstance"
def Bi.val : Bi → Sum String String
  | .len => .inl "len" | .all => .inl "all" | .any => .inl "any" | .sum => .inl "sum" | .abs => .inl "abs" | .min => .inl "min" | .max => .inl "max" | .int => .inr "int" | .str => .inr "str" | .list => .inr "list" | .tuple => .inr "tuple" | .isi => .inl "isinstance"
def valB : Sum String String → Value
  | .inl x => .builtin x
  | .inr x => .type x
theorem Bi.boot : ∀ b : Bi, bootBuiltins b.nm = some (valB b.val) := by
  intro b
  cases b <;> decide +kernel
section
variable {T : Tb} {X : Cx}
theorem ls_rd {K : PySem.W.Frag} {H : Hp} {G : Gp} {y : U} {yv : V} {xs : List U} (ab : Abs T K H G) (e : lsU G y = some xs) (r : RU T K H y yv) : ∃ p vs, yv = .ref p ∧ SqL K H p vs ∧ RUs T K H xs vs := by
  cases y with
  | ref a =>
    cases r
    obtain ⟨vs, h, r⟩ := ab.list e
    exact ⟨a, vs, rfl, .inl h, r⟩
  | rl us =>
    cases e
    cases r with
    | rl s r => exact ⟨_, _, rfl, s.sq, r⟩
  | _ => cases e
theorem ty_of {K : PySem.W.Frag} {H : Hp} {G : Gp} {x : U} {v : V} {t : BT} (ab : Abs T K H G) (e : tyU G x = some t) (r : RU T K H x v) : TyX K H v (.type t.nm) := by
  cases x with
  | non => cases e; cases r; exact .base .non
  | bl b => cases e; cases r; exact .base (.bl b)
  | int b => cases e; cases r; exact .base (.int b)
  | str b => cases e; cases r; exact .base (.str b)
  | tup us =>
    cases e
    cases r with
    | tup s r =>
      rcases s with s | ⟨o, its, n, h1, h2, _⟩
      · exact .base (.tup s)
      · exact .kTuple h1 h2
  | rl us =>
    cases e
    cases r with
    | rl s r =>
      rcases s with ⟨ob, s⟩ | ⟨o, its, n, h1, h2, _⟩
      · exact .base (.frz s)
      · exact .kList h1 h2
  | ref a =>
    cases r
    unfold tyU at e
    cases q : G a with
    | none => simp only [q] at e; cases e
    | some o =>
      have z := ab a o q
      simp only [q] at e
      cases o with
      | lst us => cases e; obtain ⟨vs, h, _⟩ := z; exact .base (.lst h)
      | dic kvs =>
        cases e
        rcases z with ⟨q, h, _⟩ | ⟨q, h, _⟩
        · exact .base (.dK h)
        · exact .base (.dT h)
      | ins c fs => cases e
      | exc c fs => cases e
  | ty n => cases e
  | cls n => cases e
theorem kit_sub : ∀ a b : BT, kitB a.nm b.nm = some (a.sub b) := by
  intro a b
  cases a <;> cases b <;> decide +kernel
theorem bts_RUs {K : PySem.W.Frag} {H : Hp} : ∀ {us : List U} {vs : List V} {ns : List BT}, btsU us = some ns → RUs T K H us vs → Paired ClsV vs (ns.map fun n => Value.type n.nm)
  | [], _, _, e, r => by cases r; cases e; exact .nil
  | .ty i :: us, _, _, e, r => by
    cases r with
    | cons a b =>
      unfold btsU at e
      split at e
      · rename_i zs ez
        cases e
        cases a
        exact .cons (.ty _) (bts_RUs ez b)
      · cases e
  | .non :: _, _, _, e, _ | .int _ :: _, _, _, e, _ | .bl _ :: _, _, _, e, _ | .tup _ :: _, _, _, e, _ | .rl _ :: _, _, _, e, _ | .ref _ :: _, _, _, e, _ | .str _ :: _, _, _, e, _ | .cls _ :: _, _, _, e, _ => by cases e
theorem kits {K : PySem.W.Frag} (m : BT) : ∀ ns : List BT, PySem.W.kitAny K (.type m.nm) (ns.map fun n => Value.type n.nm) = some (ns.any fun n => m.sub n)
  | [] => kitAny_nil
  | n :: ns => by
    rw [List.map_cons, List.any_cons]
    refine kitAny_cons (kit_ty (kit_sub m n)) (fun e => ?_) (fun e => ?_)
    · rw [kits m ns, e]; rfl
    · rw [e]; rfl
/-- isinstance(x, (..)) of any standing tuple of built-in classes -/
theorem vals_cls : ∀ {ns : List BT} {vs : List V} {us : List Value}, Paired ClsV vs (ns.map fun n => Value.type n.nm) → Vals vs us → us = ns.map fun n => Value.type n.nm := fun p r => ClsV.all p r
theorem bi_ok (hc : X.calm = true) : ∀ b : Bi, CallL T X (valB b.val) (biU b)
  | .len => ⟨_, CallR.or call_len_seq call_len_str, fun H G us vs Q Qv ab r h q => by
    simp only [biU] at h
    split at h
    · rename_i x
      obtain ⟨v, rfl, rx⟩ := r.one
      unfold lenU at h
      split at h
      · cases rx
        exact .inr ⟨_, rfl, h.1, q _ _ (QV.same ab (.int _) h.2)⟩
      · split at h
        · rename_i xs e
          obtain ⟨p, ws, rfl, s, rr⟩ := rd_sq ab e rx
          exact .inl ⟨p, ws, rfl, s, q _ _ (QV.same ab (.int _) (by rw [← rr.length]; exact h))⟩
        · exact h.elim
    · exact h.elim⟩
  | .all => ⟨_, cr_all hc, fun H G us vs Q Qv ab r h q => by
    simp only [biU] at h
    split at h
    · obtain ⟨v, rfl, rx⟩ := r.one
      split at h
      · rename_i xs e
        obtain ⟨p, ws, rfl, s, rr⟩ := ls_rd ab e rx
        split at h
        · rename_i bs eb
          rw [bls_RUs eb rr] at s
          exact ⟨p, bs, rfl, s, q _ _ (QV.same ab (.bl _) h)⟩
        · exact h.elim
      · exact h.elim
    · exact h.elim⟩
  | .any => ⟨_, cr_any hc, fun H G us vs Q Qv ab r h q => by
    simp only [biU] at h
    split at h
    · obtain ⟨v, rfl, rx⟩ := r.one
      split at h
      · rename_i xs e
        obtain ⟨p, ws, rfl, s, rr⟩ := ls_rd ab e rx
        split at h
        · rename_i bs eb
          rw [bls_RUs eb rr] at s
          exact ⟨p, bs, rfl, s, q _ _ (QV.same ab (.bl _) h)⟩
        · exact h.elim
      · exact h.elim
    · exact h.elim⟩
  | .sum => ⟨_, cr_sum hc, fun H G us vs Q Qv ab r h q => by
    simp only [biU] at h
    split at h
    · obtain ⟨v, rfl, rx⟩ := r.one
      split at h
      · rename_i xs e
        obtain ⟨p, ws, rfl, s, rr⟩ := ls_rd ab e rx
        split at h
        · rename_i bs eb
          rw [ints_RUs eb rr] at s
          exact ⟨p, bs, rfl, s, q _ _ (QV.same ab (.int _) h)⟩
        · exact h.elim
      · exact h.elim
    · exact h.elim⟩
  | .abs => ⟨_, call_abs, fun H G us vs Q Qv ab r h q => by
    simp only [biU] at h
    split at h
    · obtain ⟨v, rfl, rx⟩ := r.one
      cases rx
      exact ⟨_, rfl, q _ _ (QV.same ab (.int _) h)⟩
    · exact h.elim⟩
  | .min => ⟨_, CallR.or (call_min2 hc) (cr_min hc), fun H G us vs Q Qv ab r h q => by
    simp only [biU] at h
    split at h
    · obtain ⟨v, w, rfl, rx, ry⟩ := r.two
      cases rx; cases ry
      exact .inl ⟨_, _, rfl, q _ _ (QV.same ab (.int _) h)⟩
    · obtain ⟨v, rfl, rx⟩ := r.one
      split at h
      · rename_i xs e
        obtain ⟨p, ws, rfl, s, rr⟩ := ls_rd ab e rx
        split at h
        · rename_i bs eb
          rw [ints_RUs eb rr] at s
          exact .inr ⟨p, bs, rfl, s, h.1, fun m h1 h2 => q _ _ (QV.same ab (.int _) (h.2 m h1 h2))⟩
        · exact h.elim
      · exact h.elim
    · exact h.elim⟩
  | .max => ⟨_, CallR.or (call_max2 hc) (cr_max hc), fun H G us vs Q Qv ab r h q => by
    simp only [biU] at h
    split at h
    · obtain ⟨v, w, rfl, rx, ry⟩ := r.two
      cases rx; cases ry
      exact .inl ⟨_, _, rfl, q _ _ (QV.same ab (.int _) h)⟩
    · obtain ⟨v, rfl, rx⟩ := r.one
      split at h
      · rename_i xs e
        obtain ⟨p, ws, rfl, s, rr⟩ := ls_rd ab e rx
        split at h
        · rename_i bs eb
          rw [ints_RUs eb rr] at s
          exact .inr ⟨p, bs, rfl, s, h.1, fun m h1 h2 => q _ _ (QV.same ab (.int _) (h.2 m h1 h2))⟩
        · exact h.elim
      · exact h.elim
    · exact h.elim⟩
  | .int => ⟨_, call_int_str, fun H G us vs Q Qv ab r h q => by
    simp only [biU] at h
    split at h
    · obtain ⟨v, rfl, rx⟩ := r.one
      cases rx
      obtain ⟨n, h1, h2, h3⟩ := h
      exact ⟨_, n, rfl, h1, h2, q _ _ (QV.same ab (.int _) h3)⟩
    · exact h.elim⟩
  | .str => ⟨_, call_str_int, fun H G us vs Q Qv ab r h q => by
    simp only [biU] at h
    split at h
    · obtain ⟨v, rfl, rx⟩ := r.one
      cases rx
      exact ⟨_, rfl, h.1, q _ _ (QV.same ab (.str _) h.2)⟩
    · exact h.elim⟩
  | .list => ⟨_, call_list_of, fun H G us vs Q Qv ab r h q => by
    simp only [biU] at h
    split at h
    · obtain ⟨v, rfl, rx⟩ := r.one
      split at h
      · rename_i xs e
        obtain ⟨p, ws, rfl, s, rr⟩ := rd_sq ab e rx
        exact ⟨p, ws, rfl, s, fun l n => q _ _ (QV.lst ab n rr h)⟩
      · exact h.elim
    · exact h.elim⟩
  | .tuple => ⟨_, call_tuple_of, fun H G us vs Q Qv ab r h q => by
    simp only [biU] at h
    split at h
    · rename_i x
      obtain ⟨v, rfl, rx⟩ := r.one
      cases x with
      | tup us =>
        cases rx with
        | tup s rr => exact ⟨_, _, rfl, .inr ⟨s.sq, q _ _ (QV.same ab (.tup s rr) h)⟩⟩
      | ref a =>
        split at h
        · rename_i xs e
          cases rx
          obtain ⟨ws, hr, rr⟩ := ab.list e
          exact ⟨a, ws, rfl, .inl ⟨.inl hr, fun l n => q _ _ (QV.tup ab n rr h)⟩⟩
        · exact h.elim
      | rl us =>
        cases rx with
        | rl s rr => exact ⟨_, _, rfl, .inl ⟨s.sq, fun l n => q _ _ (QV.tup ab n rr h)⟩⟩
      | _ => exact h.elim
    · exact h.elim⟩
  | .isi => ⟨_, CallR.or call_isi (CallR.or call_isiT call_isiK), fun H G us vs Q Qv ab r h q => by
    simp only [biU] at h
    split at h
    · obtain ⟨v, w, rfl, rx, ry⟩ := r.two
      cases ry
      split at h
      · rename_i m e
        exact .inl ⟨_, _, _, _, _, rfl, .ty _, ty_of ab e rx, kit_ty (kit_sub _ _), q _ _ (QV.same ab (.bl _) h)⟩
      · exact h.elim
    · obtain ⟨v, w, rfl, rx, ry⟩ := r.two
      split at h
      · rename_i m ns e1 e2
        cases ry with
        | @tup p ws _ s rr =>
          have pc := bts_RUs e2 rr
          rcases s with s | ⟨o, its, n, h1, h2, h3, h4, h5⟩
          · exact .inr (.inl ⟨_, p, ws, _, _, _, rfl, s, pc, ty_of ab e1 rx, kits _ _, q _ _ (QV.same ab (.bl _) h)⟩)
          · have e5 := ClsV.all pc h5
            obtain ⟨oc, od, dt, sl⟩ := o
            simp only at h2 h3
            subst h2 h3
            refine .inr (.inr ⟨_, p, od, _, n, sl, _, _, rfl, ?_, ty_of ab e1 rx, kits m ns, q _ _ (QV.same ab (.bl _) h)⟩)
            rw [← e5]
            simpa using h1
      · exact h.elim
    · exact h.elim⟩
end
/-! ### methods of built-in types -/
def Bm.ty : Bm → String
  | .append => "list" | .extend => "list" | .startswith => "str" | .split => "str" | .join => "str" | .sindex => "str"
def Bm.nm : Bm → Str
  | .append => "append" | .extend => "extend" | .startswith => "startswith" | .split => "split" | .join => "join" | .sindex => "index"
def Bm.id : Bm → String
  | .append => "list.append" | .extend => "list.extend" | .startswith => "str.startswith" | .split => "str.split" | .join => "str.join" | .sindex => "str.index"
structure BmF (m : Bm) : Prop where
  pa : PlainAttrs m.ty
  slot : Slot m.ty m.nm m.id
  ty : typeOf (.builtin m.id) = pure (.type "method_descriptor")
theorem bm_facts : ∀ m : Bm, BmF m
  | .append => ⟨PySem.F.plainAttrs_list, PySem.F.slot_list_append, PySem.F.type_list_append⟩
  | .extend => ⟨PySem.F.plainAttrs_list, PySem.F.slot_list_extend, PySem.F.type_list_extend⟩
  | .startswith => ⟨PySem.F.plainAttrs_str, PySem.F.slot_str_startswith, PySem.F.type_str_startswith⟩
  | .split => ⟨PySem.F.plainAttrs_str, PySem.F.slot_str_split, PySem.F.type_str_split⟩
  | .join => ⟨PySem.F.plainAttrs_str, PySem.F.slot_str_join, PySem.F.type_str_join⟩
  | .sindex => ⟨PySem.F.plainAttrs_str, PySem.F.slot_str_index, PySem.F.type_str_index⟩
section
variable {T : Tb} {X : Cx}
/-- a written list -/
theorem QV.wr {K : PySem.W.Frag} {H : Hp} {G : Gp} {Q : UK} {us : List U} {vs ws : List V} {p : Addr} {x : U} {v : V} (ab : Abs T K H G) (n : H p = some (.lst ws)) (r : RUs T K H us vs) (rx : ∀ H', RU T K H' x v) (q : Q x (put G p (.lst us))) : QV T K H Q v (upd H p (.lst vs)) := by
  have nt : isTup (H p) = false := by rw [n]; rfl
  exact ⟨x, put G p (.lst us), TL.upd nt, ab.put nt ⟨vs, upd_same, RUs.mono (TL.upd nt) _ _ r⟩, rx _, q⟩
theorem mt_sindex : MtR X "str.index" (fun x xs H Q => ∃ a b, x = .str a ∧ xs = [.str b] ∧ ∃ k, Txt.index0 a b = some k ∧ Q (.int (k : Nat)) H) := by
  intro pins s σ H x xs v us Q I rx rs h
  obtain ⟨a, b, rfl, rfl, k, hk, h⟩ := h
  obtain ⟨t, rfl⟩ := rx
  obtain ⟨u, rfl, ru⟩ := rs.one
  obtain ⟨t', rfl⟩ := ru
  cases q : Builtin.Str.occurrences a b 0 a.length 1 with
  | nil => unfold Txt.index0 at hk; rw [q] at hk; cases hk
  | cons k' rest =>
    have e : k' = k := by unfold Txt.index0 at hk; rw [q] at hk; exact Option.some.inj hk
    subst e
    exact PySem.SC.index q ⟨.int (k' : Nat), H, I.tok _, ⟨_, rfl⟩, h⟩
theorem bm_ok : ∀ m : Bm, MtL T X m.id (bmU m)
  | .append => ⟨_, mt_append, fun H G x xv us vs Q Qv ab rx r h q => by
    simp only [bmU] at h
    split at h
    · rename_i a y
      cases rx
      obtain ⟨v, rfl, ry⟩ := r.one
      split at h
      · rename_i xs e
        obtain ⟨ws, hw, rw'⟩ := ab _ _ e
        exact ⟨_, ws, v, rfl, rfl, hw, by rw [← rw'.length]; exact h.1, q _ _ (QV.wr ab hw (rw'.append (.cons ry .nil)) (fun _ => .non) h.2)⟩
      · exact h.elim
    · exact h.elim⟩
  | .extend => ⟨_, mt_extend, fun H G x xv us vs Q Qv ab rx r h q => by
    simp only [bmU] at h
    split at h
    · rename_i a y
      cases rx
      obtain ⟨v, rfl, ry⟩ := r.one
      cases ry
      split at h
      · rename_i xs ys e1 e2
        obtain ⟨ws, hw, rw'⟩ := ab _ _ e1
        obtain ⟨zs, hz, rz⟩ := ab _ _ e2
        exact ⟨_, _, ws, zs, rfl, rfl, hw, hz, by rw [← rw'.length, ← rz.length]; exact h.1, q _ _ (QV.wr ab hw (rw'.append rz) (fun _ => .non) h.2)⟩
      · exact h.elim
    · exact h.elim⟩
  | .startswith => ⟨_, mt_startswith, fun H G x xv us vs Q Qv ab rx r h q => by
    simp only [bmU] at h
    split at h
    · cases rx
      obtain ⟨v, rfl, ry⟩ := r.one
      cases ry
      exact ⟨_, _, rfl, rfl, q _ _ (QV.same ab (.bl _) h)⟩
    · exact h.elim⟩
  | .split => ⟨_, mt_split, fun H G x xv us vs Q Qv ab rx r h q => by
    simp only [bmU] at h
    split at h
    · cases rx
      obtain ⟨v, rfl, ry⟩ := r.one
      cases ry
      exact ⟨_, _, rfl, rfl, h.1, h.2.1, fun p n => q _ _ (QV.lst ab n (RUs.strs _) h.2.2)⟩
    · exact h.elim⟩
  | .join => ⟨_, mt_join, fun H G x xv us vs Q Qv ab rx r h q => by
    simp only [bmU] at h
    split at h
    · cases rx
      obtain ⟨v, rfl, ry⟩ := r.one
      split at h
      · rename_i ys e
        obtain ⟨p, ws, rfl, s, rr⟩ := rd_sq ab e ry
        split at h
        · rename_i zs ez
          rw [strs_RUs ez rr] at s
          exact ⟨_, p, zs, rfl, rfl, s, h.1, q _ _ (QV.same ab (.str _) h.2)⟩
        · exact h.elim
      · exact h.elim
    · exact h.elim⟩
  | .sindex => ⟨_, mt_sindex, fun H G x xv us vs Q Qv ab rx r h q => by
    simp only [bmU] at h
    split at h
    · cases rx
      obtain ⟨v, rfl, ry⟩ := r.one
      cases ry
      split at h
      · rename_i k ek
        exact ⟨_, _, rfl, rfl, k, ek, q _ _ (QV.same ab (.int _) h)⟩
      · exact h.elim
    · exact h.elim⟩
theorem tm_ok {m : Bm} {K : PySem.W.Frag} {H : Hp} {G : Gp} {x : U} {xv : V} (ab : Abs T K H G) (rx : RU T K H x xv) (h : tmU m x G) : tyV K m.ty xv H := by
  unfold tmU at h
  split at h
  · cases rx
    obtain ⟨xs, e⟩ := Option.isSome_iff_exists.mp h
    obtain ⟨vs, hr, _⟩ := ab.list e
    exact .inl ⟨rfl, vs, .inl hr⟩
  · cases rx
    obtain ⟨xs, e⟩ := Option.isSome_iff_exists.mp h
    obtain ⟨vs, hr, _⟩ := ab.list e
    exact .inl ⟨rfl, vs, .inl hr⟩
  · cases rx; rfl
  · cases rx; rfl
  · cases rx; rfl
  · cases rx; rfl
  · exact h.elim
end
/-! ### calls -/
section
variable {T : Tb} {X : Cx} {e o : Expr} {es : List Expr} {te to : TEU} {ts : TAU} {p pos apos : Pos}
theorem qb_below {f : Value} {rU : R1U} {r : List V → Hp → VK → Prop} (i : ∀ (H : Hp) (G : Gp) (us : List U) (vs : List V) (Q : UK) (Qv : VK), Abs T X.K H G → RUs T X.K H us vs → rU us G Q → (∀ v H', QV T X.K H Q v H' → Qv v H') → r vs H Qv)
    (σv : L2.St) (H : Hp) (Qv : VK) (h : lE T X.K (fun σ G Q => ts σ G fun us G1 => rU us G1 Q) σv H Qv) : tCB r (lA T X.K ts) σv H Qv := by
  obtain ⟨σ, G, Q, rs, ab, h, q⟩ := h
  refine ⟨σ, G, _, rs, ab, h, fun vs H1 ⟨us, G1, t1, ab1, r1, h1⟩ => ?_⟩
  exact i H1 G1 us vs Q Qv ab1 r1 h1 fun v H' z => q v H' (z.from t1)
theorem q_blt {b : Bi} (hc : X.calm = true) (hg : Gl X b.nm) (hm : X.mg b.nm = none) (ha : QA T X (e :: es) ts) (he : starEach (e :: es) X.env = (false, eval e X.env) :: starEach es X.env) (hpl : (backTo pos (starEach es X.env)).any (·.1) = false) :
    QE T X (.Call (.Name b.nm p) (e :: es) [] pos) (fun σ G Q => ts σ G fun us G1 => biU b us G1 Q) := by
  obtain ⟨r, hr, i⟩ := bi_ok (T := T) hc b
  have hv := b.boot
  have hn : b.nm ≠ "__name__" := by cases b <;> decide +kernel
  have hd : (b.nm == ("__debug__" : Str)) = false := by cases b <;> decide +kernel
  cases hb : b.val with
  | inl x => rw [hb] at hr hv; exact PEi (pe_callB hr hg hm hv ha hn hd he hpl) (qb_below (f := .none) i)
  | inr x => rw [hb] at hr hv; exact PEi (pe_callTy hr hg hm hv ha hn hd he hpl) (qb_below (f := .none) i)
theorem q_btm {m : Bm} (ho : QE T X o to) (ha : QA T X (e :: es) ts) (hbase : attributeBase o m.nm X.env (eval o X.env) = eval o X.env)
    (hfew : ((backTo pos (starEach (e :: es) X.env)).all (fun x => !x.1) && (backToKw pos (keywordEach [] X.env)).all (fun x => x.1.isSome) && decide ((e :: es).length + ([] : List Keyword).length + (if ([] : List Keyword).isEmpty then 0 else 1) < 30)) = true)
    (hline : (apos.endLine == pos.line) = true) (hs : starEach (e :: es) X.env = (false, eval e X.env) :: starEach es X.env) (hplain : (backTo pos (starEach es X.env)).any (·.1) = false) :
    QE T X (.Call (.Attribute o m.nm apos) (e :: es) [] pos) (fun σ G Q => to σ G fun x G1 => tmU m x G1 ∧ ts σ G1 fun us G2 => bmU m x us G2 Q) := by
  obtain ⟨r, hr, i⟩ := bm_ok (T := T) (X := X) m
  refine PEi (pe_bm (bm_facts m).pa (bm_facts m).slot (bm_facts m).ty hr ho ha hbase hfew hline hs hplain) fun σv H Qv h => ?_
  obtain ⟨σ, G, Q, rs, ab, h, q⟩ := h
  refine ⟨σ, G, _, rs, ab, h, fun xv H1 ⟨x, G1, t1, ab1, rx, h1⟩ => ⟨tm_ok ab1 rx h1.1, σ, G1, _, rs.mono t1, ab1, h1.2, fun vs H2 ⟨us, G2, t2, ab2, r2, h2⟩ => ?_⟩⟩
  exact i H2 G2 x xv us vs Q Qv ab2 (RU.mono t2 _ _ rx) r2 h2 fun v H' z => q v H' (z.from (t1.trans t2))
/-! ### a def's promise above, and its call -/
def lX (T : Tb) (K : PySem.W.Frag) (H : Hp) (E : XU) : XK := fun cls d H' => ∃ c fs G', cls = .ref (T.cA c) ∧ TL K H H' ∧ Abs T K H' G' ∧ ((d = none ∧ fs = []) ∨ ∃ dd q, d = some dd ∧ H' dd = some (.xd q) ∧ FR T K H' fs q) ∧ E c fs G'
def lSp (T : Tb) (K : PySem.W.Frag) (n : Nat) (sp : SpU) : Sp := fun vs H Qv Ev => ∃ us G Q E, us.length = n ∧ RUs T K H us vs ∧ Abs T K H G ∧ sp us G Q E ∧ (∀ v H', QV T K H Q v H' → Qv v H') ∧ ∀ c d H', lX T K H E c d H' → Ev c d H'
theorem lSp_len {K : PySem.W.Frag} {n : Nat} {sp : SpU} (vs : List V) (H : Hp) (Q : VK) (E : XK) (h : lSp T K n sp vs H Q E) : vs.length = n := by
  obtain ⟨us, G, Qu, Eu, hl, r, _⟩ := h
  rw [← r.length]; exact hl
/-- the wish about exceptions above, below -/
def WU (T : Tb) (K : PySem.W.Frag) (E : XS) : WX := fun cls d σv H' => ∃ c fs σ G', cls = .ref (T.cA c) ∧ RS T K H' σ σv ∧ Abs T K H' G' ∧ ((d = none ∧ fs = []) ∨ ∃ dd q, d = some dd ∧ H' dd = some (.xd q) ∧ FR T K H' fs q) ∧ E c fs σ G'
end
end Y

namespace Y
open PySem PySem.Spec PyProof.Rows L2

/-! ### calls of the program's own defs -/
section
variable {T : Tb} {X : Cx} {e o : Expr} {es : List Expr} {te to : TEU} {ts : TAU} {p pos apos : Pos} {k : Nat} {f : Addr} {sp : SpU} {E : XS} {x : Str}
/-- as FnAt, the number of the parameters told -/
structure FnN (T : Tb) (P : Program) (w : World) (K : PySem.W.Frag) (mg : Str → Option Value) (base : Heap) (k : Nat) (f : Addr) (n : Nat) (sp : SpU) : Prop where
  ex : ∃ fd ps, PySem.W.keepIn K (.ref f) = true ∧ Binds K fd ps [] ∧ ps.length = n ∧ FnOk P w K mg base (L2.CX P w) k f fd ps (lSp T K n sp)
theorem run_n {pins : List (Addr × Obj)} {σv : L2.St} {H : Hp} {s : Shared} {Qv : VK} {Q : UK} {us : List Value} {vs : List V} {xs : List U} {σ : SU} {G : Gp} {n : Nat} (F : FnN T X.prog X.w X.K X.mg X.base k f n sp) (hr : Room k X.A) (tk : Takes X (WU T X.K E))
    (I : Inv X pins σv H s) (r : Vals vs us) (rx : RUs T X.K H xs vs) (ab : Abs T X.K H G) (rs : RS T X.K H σ σv) (hl : xs.length = n)
    (h : sp xs G Q fun c fs G' => E c fs σ G') (q : ∀ v H', QV T X.K H Q v H' → Qv v H') : wpAny (model X.prog X.w) X.A (call (.ref f) us) (EP X pins σv Qv) X.xe s := by
  obtain ⟨fd, ps, kp, hb, hn, F⟩ := F.ex
  refine run_fnSD (E := WE (WU T X.K E)) (dvs := []) F hr hb .nil (passAt tk σv) I r ?_
  rw [List.append_nil]
  refine ⟨xs, G, Q, _, hl, rx, ab, h, q, fun c d H' z => ?_⟩
  obtain ⟨cc, fs, G', ec, t, ab', hd, he⟩ := z
  exact ⟨cc, fs, σ, G', ec, rs.mono t, ab', hd, he⟩
def callU (sp : SpU) (n : Nat) (E : XS) (ts : TAU) : TEU := fun σ G Q => ts σ G fun us G1 => us.length = n ∧ sp us G1 Q fun c fs G' => E c fs σ G'
theorem q_call {n : Nat} (F : FnN T X.prog X.w X.K X.mg X.base k f n sp) (hr : Room k X.A) (tk : Takes X (WU T X.K E)) (hg : Gl X x) (hm : X.mg x = some (.ref f)) (hdb : (x == ("__debug__" : Str)) = false) (ha : QA T X (e :: es) ts)
    (he : starEach (e :: es) X.env = (false, eval e X.env) :: starEach es X.env) (hpl : (backTo pos (starEach es X.env)).any (·.1) = false) : QE T X (.Call (.Name x p) (e :: es) [] pos) (callU sp n E ts) := by
  refine ⟨fun pins s σv H Qv I h => ?_⟩
  obtain ⟨σ, G, Q, rs, ab, h, q⟩ := h
  have kp : PySem.W.keepIn X.K (.ref f) = true := by obtain ⟨_, _, kp, _⟩ := F.ex; exact kp
  refine wpAny_Call_Name_kw (ld_glob I hg hm ?_ hdb)
  refine PySem.W.callWith_K (h₀ := X.base) I.ok.mod.kin kp (thn (ha.run pos pins s σv H _ I ⟨σ, G, _, rs, ab, h, fun _ _ z => z⟩) fun us s1 ⟨vs, H1, I1, r, xs, G1, t1, ab1, r1, hl, h1⟩ => ⟨I1.kIn, ?_⟩) he hpl
  exact run_n F hr tk I1 r r1 ab1 (rs.mono t1) hl h1 fun v H' z => q v H' (z.from t1)
theorem q_call0 {n : Nat} (F : FnN T X.prog X.w X.K X.mg X.base k f n sp) (hr : Room k X.A) (tk : Takes X (WU T X.K E)) (hg : Gl X x) (hm : X.mg x = some (.ref f)) (hdb : (x == ("__debug__" : Str)) = false) : QE T X (.Call (.Name x p) [] [] pos) (callU sp n E fun _ G Q => Q [] G) := by
  refine ⟨fun pins s σv H Qv I h => ?_⟩
  obtain ⟨σ, G, Q, rs, ab, ⟨hl, h⟩, q⟩ := h
  have kp : PySem.W.keepIn X.K (.ref f) = true := by obtain ⟨_, _, kp, _⟩ := F.ex; exact kp
  refine wpAny_Call_Name_kw (ld_glob I hg hm ?_ hdb)
  exact PySem.W.callWith_K0 I.kIn kp (run_n (us := []) F hr tk I .nil .nil ab rs hl h q)
end
/-! ### targets -/
section
variable {T : Tb} {X : Cx}
mutual
def gV (K : PySem.W.Frag) : Tg → TG
  | .name i => gName i
  | .tup ts => gTup K (lenT ts) (gsV K ts)
def gsV (K : PySem.W.Frag) : List Tg → TGs
  | [] => gNil
  | t :: ts => gCons (gV K t) (gsV K ts)
def lenT : List Tg → Nat
  | [] => 0
  | _ :: ts => lenT ts + 1
end
mutual
def slotsT : Tg → List Nat
  | .name i => [i]
  | .tup ts => slotsTs ts
def slotsTs : List Tg → List Nat
  | [] => []
  | t :: ts => slotsT t ++ slotsTs ts
end
mutual
theorem gU_ex : ∀ (t : Tg) (x : U) (σ : SU) (G : Gp) (Q : SU → Gp → Prop), gU t x σ G Q → ∃ σ', Q σ' G
  | .name i, x, σ, G, Q, h => ⟨_, h⟩
  | .tup ts, x, σ, G, Q, h => by
    unfold gU at h
    split at h
    · exact (gsU_ex ts _ σ G Q h).2
    · exact h.elim
theorem gsU_ex : ∀ (ts : List Tg) (xs : List U) (σ : SU) (G : Gp) (Q : SU → Gp → Prop), gsU ts xs σ G Q → xs.length = lenT ts ∧ ∃ σ', Q σ' G
  | [], [], σ, G, Q, h => ⟨rfl, σ, h⟩
  | [], _ :: _, _, _, _, h => by simp only [gsU] at h
  | _ :: _, [], _, _, _, h => by simp only [gsU] at h
  | t :: ts, x :: xs, σ, G, Q, h => by
    simp only [gsU] at h
    obtain ⟨σ', h'⟩ := gU_ex t x σ G _ h
    obtain ⟨hl, h''⟩ := gsU_ex ts xs σ' G Q h'
    exact ⟨by rw [List.length_cons, hl, lenT], h''⟩
end
theorem wipe_out {σ : L2.St} {i : Nat} {v : Option V} : ∀ {vs : List Nat}, i ∉ vs → wipe (σ.set i v) vs = (wipe σ vs).set i v
  | [], _ => rfl
  | w :: vs, h => by
    unfold wipe
    rw [List.mem_cons, not_or] at h
    rw [wipe_out h.2, List.set_comm _ _ h.1]
theorem wipe_set {σ : L2.St} {i : Nat} {v : Option V} : ∀ {vs : List Nat}, i ∈ vs → wipe (σ.set i v) vs = wipe σ vs
  | [], h => by cases h
  | w :: vs, h => by
    by_cases hm : i ∈ vs
    · unfold wipe
      rw [wipe_set hm]
    · rcases List.mem_cons.mp h with e | h
      · subst e
        unfold wipe
        rw [wipe_out hm, List.set_set]
      · exact absurd h hm
mutual
theorem gU_gV {K : PySem.W.Frag} {H : Hp} : ∀ (t : Tg) (x : U) (xv : V) (σ : SU) (σv : L2.St) (G : Gp) (Q : SU → Gp → Prop) (Qv : L2.St → Hp → Prop), RU T K H x xv → RS T K H σ σv → gU t x σ G Q →
    (∀ σv' σ', RS T K H σ' σv' → Q σ' G → (∀ vs, (∀ i ∈ slotsT t, i ∈ vs) → wipe σv' vs = wipe σv vs) → Qv σv' H) → gV K t xv σv H Qv
  | .name i, x, xv, σ, σv, G, Q, Qv, rx, rs, h, q => q _ _ (rs.set i rx) h fun vs hv => wipe_set (hv i (by unfold slotsT; exact List.mem_singleton.mpr rfl))
  | .tup ts, x, xv, σ, σv, G, Q, Qv, rx, rs, h, q => by
    unfold gU at h
    split at h
    · rename_i xs
      cases rx with
      | @tup a ws _ s r =>
        have hl := (gsU_ex ts xs σ G Q h).1
        unfold gV
        refine ⟨a, ws, rfl, s.sq, by rw [← r.length]; exact hl, ?_⟩
        exact gsU_gsV ts xs ws σ σv G Q Qv r rs h fun σv' σ' r' h' hw => q σv' σ' r' h' fun vs hv => hw vs (by unfold slotsT at hv; exact hv)
    · exact h.elim
theorem gsU_gsV {K : PySem.W.Frag} {H : Hp} : ∀ (ts : List Tg) (xs : List U) (ws : List V) (σ : SU) (σv : L2.St) (G : Gp) (Q : SU → Gp → Prop) (Qv : L2.St → Hp → Prop), RUs T K H xs ws → RS T K H σ σv → gsU ts xs σ G Q →
    (∀ σv' σ', RS T K H σ' σv' → Q σ' G → (∀ vs, (∀ i ∈ slotsTs ts, i ∈ vs) → wipe σv' vs = wipe σv vs) → Qv σv' H) → gsV K ts ws σv H Qv
  | [], [], ws, σ, σv, G, Q, Qv, r, rs, h, q => by
    cases r
    unfold gsV
    exact ⟨rfl, q σv σ rs h fun vs _ => rfl⟩
  | [], _ :: _, _, _, _, _, _, _, _, _, h, _ => by simp only [gsU] at h
  | _ :: _, [], _, _, _, _, _, _, _, _, h, _ => by simp only [gsU] at h
  | t :: ts, x :: xs, ws, σ, σv, G, Q, Qv, r, rs, h, q => by
    simp only [gsU] at h
    cases r with
    | cons a b =>
      unfold gsV
      refine ⟨_, _, rfl, gU_gV t x _ σ σv G _ _ a rs h fun σv' σ' r' h' hw => ?_⟩
      refine gsU_gsV ts xs _ σ' σv' G Q Qv b r' h' fun σv2 σ2 r2 h2 hw2 => q σv2 σ2 r2 h2 fun vs hv => ?_
      unfold slotsTs at hv
      rw [hw2 vs fun i hi => hv i (List.mem_append_right _ hi), hw vs fun i hi => hv i (List.mem_append_left _ hi)]
end
end
end Y

namespace Y
open PySem PySem.Spec PyProof.Rows L2

/-! ### what is walked -/
structure WK (T : Tb) (K : PySem.W.Frag) (H0 : Hp) (J : It) (src : Gp → Prop) (items : List U) : Prop where
  go : ∀ i H G, TL K H0 H → Abs T K H G → src G → i < items.length → J.go i H
  yld : ∀ i H G x H', TL K H0 H → Abs T K H G → src G → J.yld i H x H' → TL K H H' ∧ Abs T K H' G ∧ ∀ u, items[i]? = some u → RU T K H' u x
  stop : ∀ H G, TL K H0 H → Abs T K H G → src G → J.stop items.length H
def lI (T : Tb) (K : PySem.W.Frag) (wi : TIU) : TI := fun σv H R => ∃ σ G Ru, RS T K H σ σv ∧ Abs T K H G ∧ wi σ G Ru ∧ ∀ J H' src items G', TL K H H' → Abs T K H' G' → WK T K H' J src items → Ru src items G' → R J H'
section
variable {T : Tb} {X : Cx} {tg e a b : Expr} {te ta tb : TEU}
theorem TQ.inj {K : PySem.W.Frag} {H : Hp} {p : Addr} {xs : List V} {J : List V} : TQ K H p xs → SqT K H p xs := TQ.sq
theorem wk_tup {K : PySem.W.Frag} {H0 : Hp} {p : Addr} {vs : List V} {us : List U} (s : TQ K H0 p vs) (r : RUs T K H0 us vs) : WK T K H0 (Itt K p) (fun _ => True) us where
  go := fun i H G t ab _ hi => by
    have hv : i < vs.length := by rw [← r.length]; exact hi
    exact ⟨vs, vs[i], (t.tq _ _ s).sq, List.getElem?_eq_getElem hv⟩
  yld := fun i H G x H' t ab _ y => by
    obtain ⟨e, y⟩ := y
    subst e
    refine ⟨TL.refl _, ab, fun u hu => ?_⟩
    obtain ⟨v, hv, rv⟩ := r.get hu
    have e := y vs (t.tq _ _ s).sq
    rw [hv] at e
    cases e
    exact RU.mono t _ _ rv
  stop := fun H G t ab _ => ⟨vs, (t.tq _ _ s).sq, by rw [r.length]; exact Nat.le_refl _⟩
theorem wk_rl {K : PySem.W.Frag} {H0 : Hp} {p : Addr} {vs : List V} {us : List U} (s : LQ K H0 p vs) (r : RUs T K H0 us vs) : WK T K H0 (Itl K p) (fun _ => True) us where
  go := fun i H G t ab _ hi => by
    have hv : i < vs.length := by rw [← r.length]; exact hi
    exact ⟨vs, vs[i], (t.lq _ _ s).sq, List.getElem?_eq_getElem hv⟩
  yld := fun i H G x H' t ab _ y => by
    obtain ⟨e, y⟩ := y
    subst e
    refine ⟨TL.refl _, ab, fun u hu => ?_⟩
    obtain ⟨v, hv, rv⟩ := r.get hu
    have e := y vs (t.lq _ _ s).sq
    rw [hv] at e
    cases e
    exact RU.mono t _ _ rv
  stop := fun H G t ab _ => ⟨vs, (t.lq _ _ s).sq, by rw [r.length]; exact Nat.le_refl _⟩
theorem wk_lst {K : PySem.W.Frag} {H0 : Hp} {p : Addr} {us : List U} : WK T K H0 (Itl K p) (fun G => lsG (G p) = some us) us where
  go := fun i H G t ab e hi => by
    obtain ⟨vs, h, r⟩ := ab.list e
    have hv : i < vs.length := by rw [← r.length]; exact hi
    exact ⟨vs, vs[i], .inl h, List.getElem?_eq_getElem hv⟩
  yld := fun i H G x H' t ab e y => by
    obtain ⟨e1, y⟩ := y
    subst e1
    obtain ⟨vs, h, r⟩ := ab.list e
    refine ⟨TL.refl _, ab, fun u hu => ?_⟩
    obtain ⟨v, hv, rv⟩ := r.get hu
    have e := y vs (.inl h)
    rw [hv] at e
    cases e
    exact rv
  stop := fun H G t ab e => by
    obtain ⟨vs, h, r⟩ := ab.list e
    exact ⟨vs, .inl h, by rw [r.length]; exact Nat.le_refl _⟩
theorem wk_str {K : PySem.W.Frag} {H0 : Hp} {z : Str} : WK T K H0 (Its z) (fun _ => True) (z.cps.toList.map fun c => .str ⟨#[c]⟩) where
  go := fun i H G t ab e hi => by
    show i < z.cps.size
    rw [List.length_map, Array.length_toList] at hi
    exact hi
  yld := fun i H G x H' t ab e y => by
    obtain ⟨e1, c, hc, ex⟩ := y
    subst e1 ex
    refine ⟨TL.refl _, ab, fun u hu => ?_⟩
    rw [List.getElem?_map, Array.getElem?_toList, hc] at hu
    cases hu
    exact .str _
  stop := fun H G t ab e => by
    show z.cps.size ≤ _
    rw [List.length_map, Array.length_toList]
    exact Nat.le_refl _
theorem rngU_get {lo : Int} {n i : Nat} : (rngU lo n)[i]? = if i < n then some (.int (lo + (i : Int))) else none := by
  unfold rngU
  rw [List.getElem?_map]
  by_cases h : i < n
  · rw [if_pos h, List.getElem?_eq_getElem (by simpa using h)]
    simp
  · rw [if_neg h, List.getElem?_eq_none (by simpa using h)]
    rfl
theorem rngU_len {lo : Int} {n : Nat} : (rngU lo n).length = n := by unfold rngU; simp
theorem wk_rng {K : PySem.W.Frag} {H0 : Hp} {lo : Int} {n : Nat} : WK T K H0 (Itr lo n) (fun _ => True) (rngU lo n) where
  go := fun i H G t ab e hi => by
    show i < n
    rw [rngU_len] at hi
    exact hi
  yld := fun i H G x H' t ab e y => by
    obtain ⟨e1, ex⟩ := y
    subst e1 ex
    refine ⟨TL.refl _, ab, fun u hu => ?_⟩
    rw [rngU_get] at hu
    split at hu
    · cases hu; exact .int _
    · cases hu
  stop := fun H G t ab e => by
    show n ≤ _
    rw [rngU_len]
    exact Nat.le_refl _
/-- a list, a tuple, a text, walked -/
theorem qi_seq (he : QE T X e te) : PI X tg e (lI T X.K fun σ G R => te σ G fun x G1 => seqU x G1 R) := by
  refine ⟨fun pins s σv H R I h => ?_⟩
  obtain ⟨σ, G, Ru, rs, ab, h, q⟩ := h
  refine thn (he.run pins s σv H _ I ⟨σ, G, _, rs, ab, h, fun _ _ z => z⟩) fun v s1 ⟨xv, H1, I1, r1, x, G1, t1, ab1, rx, h1⟩ => ?_
  replace h1 : seqU x G1 Ru := h1
  unfold seqU at h1
  split at h1
  · cases rx with
    | @tup p vs _ st rr =>
      cases r1
      obtain ⟨its, rv, pl, hz⟩ := I1.tuple st.sq
      exact wpAny_pyIter_tuple (show s1.heap.IsTuple p its.toArray from pl) (pi_one (tk := s1.toks) I1 _ (turn_tuple p _) ⟨_, Heap.get?_push_size _ rfl, rfl, rfl⟩ (q _ H1 _ _ G1 t1 ab1 (wk_tup st rr) h1))
  · cases rx with
    | @rl p vs _ st rr =>
      cases r1
      obtain ⟨its, rv, pl, hz⟩ := I1.list st.sq
      exact wpAny_pyIter_list pl.isList (pi_one (tk := s1.toks) I1 _ (turn_list p _) ⟨_, Heap.get?_push_size _ rfl, rfl, rfl⟩ (q _ H1 _ _ G1 t1 ab1 (wk_rl st rr) h1))
  · rename_i z
    cases rx
    obtain ⟨t, rfl⟩ := r1
    have q' := q _ H1 _ _ G1 t1 ab1 wk_str h1
    cases ha : z.cps.all (· < 128)
    · exact wpAny_pyIter_wide ha (pi_one (tk := s1.toks) I1 _ (turn_str _ z t "str_iterator" (.inr rfl)) ⟨_, Heap.get?_push_size _ rfl, rfl, rfl⟩ q')
    · exact wpAny_pyIter_ascii ha (pi_one (tk := s1.toks) I1 _ (turn_str _ z t "str_ascii_iterator" (.inl rfl)) ⟨_, Heap.get?_push_size _ rfl, rfl, rfl⟩ q')
  · rename_i p
    cases rx
    cases r1
    split at h1
    · rename_i xs e
      obtain ⟨vs, hr, rr⟩ := ab1.list e
      obtain ⟨its, rv, pl, hz⟩ := I1.list (.inl hr)
      exact wpAny_pyIter_list pl.isList (pi_one (tk := s1.toks) I1 _ (turn_list p _) ⟨_, Heap.get?_push_size _ rfl, rfl, rfl⟩ (q _ H1 _ _ G1 t1 ab1 wk_lst h1))
    · exact h1.elim
  · exact h1.elim
theorem PIi {X : Cx} {tg e : Expr} {t t' : TI} (h : PI X tg e t') (i : ∀ σ H Q, t σ H Q → t' σ H Q) : PI X tg e t := ⟨fun pins s σ H Q I q => h.run pins s σ H Q I (i σ H Q q)⟩
theorem qi_rng1 {p pos : Pos} (hg : Gl X "range") (hm : X.mg "range" = none) (ha : QE T X a ta) (hs : starEach [a] X.env = [(false, eval a X.env)]) :
    PI X tg (.Call (.Name "range" p) [a] [] pos) (lI T X.K fun σ G R => ta σ G fun x G1 => partU x fun j => -(2 ^ 62) ≤ j ∧ j < 2 ^ 62 ∧ R (fun _ => True) (rngU 0 j.toNat) G1) :=
  PIi (pi_range1 hg hm (pa_cons ha pa_nil hs) hs) fun σv H R h => by
    obtain ⟨σ, G, Ru, rs, ab, h, q⟩ := h
    refine ⟨σ, G, _, rs, ab, h, fun xv H1 ⟨x, G1, t1, ab1, rx, h1⟩ => ?_⟩
    obtain ⟨i, e, _, h1⟩ := partU_of h1 rx
    subst e
    exact ⟨i, rfl, h1.1, h1.2.1, q _ H1 _ _ G1 t1 ab1 wk_rng h1.2.2⟩
theorem qi_rng2 {p pos : Pos} (hg : Gl X "range") (hm : X.mg "range" = none) (ha : QE T X a ta) (hb : QE T X b tb) (hs : starEach [a, b] X.env = [(false, eval a X.env), (false, eval b X.env)]) (hs2 : starEach [b] X.env = [(false, eval b X.env)]) :
    PI X tg (.Call (.Name "range" p) [a, b] [] pos) (lI T X.K fun σ G R => ta σ G fun x G1 => tb σ G1 fun y G2 => partU x fun i => partU y fun j => -(2 ^ 62) ≤ i ∧ i < 2 ^ 62 ∧ -(2 ^ 62) ≤ j ∧ j < 2 ^ 62 ∧ R (fun _ => True) (rngU i (j - i).toNat) G2) :=
  PIi (pi_range2 hg hm (pa_cons ha (pa_cons hb pa_nil hs2) (by rw [hs, hs2])) hs hs2) fun σv H R h => by
    obtain ⟨σ, G, Ru, rs, ab, h, q⟩ := h
    refine ⟨σ, G, _, rs, ab, h, fun xv H1 ⟨x, G1, t1, ab1, rx, h1⟩ => ⟨σ, G1, _, rs.mono t1, ab1, h1, fun yv H2 ⟨y, G2, t2, ab2, ry, h2⟩ => ?_⟩⟩
    obtain ⟨i, e, _, h2⟩ := partU_of h2 rx
    subst e
    obtain ⟨j, e, _, h2⟩ := partU_of h2 ry
    subst e
    exact ⟨i, j, rfl, ⟨h2.1, h2.2.1, h2.2.2.1, h2.2.2.2.1⟩, q _ H2 _ _ G2 (t1.trans t2) ab2 wk_rng h2.2.2.2.2⟩
end

/-! ### loops -/
section
variable {T : Tb} {X : Cx} {tg iter c : Expr} {body : List Stmt} {pos : Pos} {wi : TIU} {tb : TSU} {t : Tg}
theorem QN.of {K : PySem.W.Frag} {H H1 : Hp} {G : Gp} {σ : SU} {σv : L2.St} {Q : SU → Gp → Prop} (t : TL K H H1) (ab : Abs T K H1 G) (rs : RS T K H1 σ σv) (q : Q σ G) : QN T K H Q σv H1 := ⟨σ, G, t, ab, rs, q⟩
theorem for_below (σv : L2.St) (H : Hp) (D : Ends) (h : lS T X.K (fun D σ G => wi σ G fun src items G1 => loopU (gU t) tb src items D σ G1) D σv H) : tFor (lI T X.K wi) (gV X.K t) (lS T X.K tb) D σv H := by
  obtain ⟨σ, G, DU, rs, ab, h, hnx, hrt, hbk, hct⟩ := h
  refine ⟨σ, G, _, rs, ab, h, fun J H0 src items G0 t0 ab0 wk h0 => ?_⟩
  refine ⟨fun i m σv H => ∃ σ G, m = items.length - i ∧ i ≤ items.length ∧ TL X.K H0 H ∧ RS T X.K H σ σv ∧ Abs T X.K H G ∧ loopU (gU t) tb src (items.drop i) DU σ G,
    ⟨items.length, σ, G0, by omega, by omega, TL.refl _, rs.mono t0, ab0, h0⟩, ?_⟩
  rintro i m σv1 H1 ⟨σ1, G1, rfl, hi, t1, rs1, ab1, h1⟩
  by_cases hlt : i < items.length
  · have e : items.drop i = items[i] :: items.drop (i + 1) := List.drop_eq_getElem_cons hlt
    rw [e] at h1
    obtain ⟨hs, h1⟩ := h1
    refine .inr ⟨wk.go i H1 G1 t1 ab1 hs hlt, fun σv' H' => ∃ σ' G', TL X.K H0 H' ∧ RS T X.K H' σ' σv' ∧ Abs T X.K H' G' ∧ loopU (gU t) tb src (items.drop (i + 1)) DU σ' G', ?_, fun xv H2 y => ?_⟩
    · rintro σv' H' ⟨σ', G', t', rs', ab', h'⟩
      exact ⟨items.length - (i + 1), by omega, σ', G', rfl, hlt, t', rs', ab', h'⟩
    · obtain ⟨t2, ab2, rx⟩ := wk.yld i H1 G1 xv H2 t1 ab1 hs y
      have rx := rx items[i] (List.getElem?_eq_getElem hlt)
      refine gU_gV t items[i] xv σ1 σv1 G1 _ _ rx (rs1.mono t2) h1 fun σv2 σ2 rs2 h2 _ => ?_
      refine ⟨σ2, G1, _, rs2, ab2, h2, fun σ' H' z => ?_, fun v H' z => ?_, fun σ' H' z => ?_, fun σ' H' z => ?_⟩
      · obtain ⟨σ3, G3, t3, ab3, rs3, h3⟩ := z
        exact ⟨σ3, G3, (t1.trans t2).trans t3, rs3, ab3, h3⟩
      · exact hrt _ _ (z.from (((t0.trans t1).trans t2)))
      · exact hnx _ _ (z.from (((t0.trans t1).trans t2)))
      · obtain ⟨σ3, G3, t3, ab3, rs3, h3⟩ := z
        exact ⟨σ3, G3, (t1.trans t2).trans t3, rs3, ab3, h3⟩
  · have ei : i = items.length := by omega
    subst ei
    rw [List.drop_length] at h1
    exact .inl ⟨wk.stop H1 G1 t1 ab1 h1.1, hnx _ _ ⟨σ1, G1, t0.trans t1, ab1, rs1, h1.2⟩⟩
theorem q_for (hp : PassesOwn (model X.prog X.w) X.A X.env X.xe) (hc : X.calm = true) (hi : PI X tg iter (lI T X.K wi)) (hg : PG X tg (gV X.K t)) (hb : QSs T X body tb) (hs : ∀ x, foldedSetIterable iter X.env x = pure x) :
    QS T X (.For tg iter body [] pos) (fun D σ G => wi σ G fun src items G1 => loopU (gU t) tb src items D σ G1) :=
  PSi (ps_for hp hc hi hg hb hs) fun D σv H h => for_below σv H D h
theorem q_while {tc : TEU} (hp : PassesOwn (model X.prog X.w) X.A X.env X.xe) (hc : QT T X c (tstU tc)) (hb : QSs T X body tb) : QS T X (.While c body [] pos) (fun D σ G => ∃ n, whU (tstU tc) tb n D σ G) :=
  PSi (ps_while hp hc hb) fun D σv H h => by
    obtain ⟨σ, G, DU, rs, ab, ⟨n, h⟩, hnx, hrt, hbk, hct⟩ := h
    refine ⟨fun m σv' H' => ∃ σ' G', TL X.K H H' ∧ RS T X.K H' σ' σv' ∧ Abs T X.K H' G' ∧ whU (tstU tc) tb m DU σ' G', ⟨n, σ, G, TL.refl _, rs, ab, h⟩, ?_⟩
    rintro m σv1 H1 ⟨σ1, G1, t1, rs1, ab1, h1⟩
    cases m with
    | zero => exact h1.elim
    | succ m =>
      refine ⟨σ1, G1, _, rs1, ab1, h1, fun k H2 ⟨G2, t2, ab2, h2⟩ => ?_⟩
      cases k with
      | true =>
        refine ⟨fun σv' H' => ∃ σ' G', TL X.K H H' ∧ RS T X.K H' σ' σv' ∧ Abs T X.K H' G' ∧ whU (tstU tc) tb m DU σ' G', fun σv' H' z => ⟨m, Nat.lt_succ_self m, z⟩, ?_⟩
        refine ⟨σ1, G2, _, rs1.mono t2, ab2, h2, fun σ' H' z => ?_, fun v H' z => ?_, fun σ' H' z => ?_, fun σ' H' z => ?_⟩
        · obtain ⟨σ3, G3, t3, ab3, rs3, h3⟩ := z
          exact ⟨σ3, G3, (t1.trans t2).trans t3, rs3, ab3, h3⟩
        · exact hrt _ _ (z.from (t1.trans t2))
        · exact hnx _ _ (z.from (t1.trans t2))
        · obtain ⟨σ3, G3, t3, ab3, rs3, h3⟩ := z
          exact ⟨σ3, G3, (t1.trans t2).trans t3, rs3, ab3, h3⟩
      | false => exact hnx _ _ ⟨σ1, G2, t1.trans t2, ab2, rs1.mono t2, h2⟩
end

/-! ### comprehensions -/
section
variable {T : Tb} {X : Cx} {wi : TIU} {t : Tg} {tt : TTU} {te : TEU}
theorem wipe_wipe (σ : L2.St) : ∀ vs : List Nat, wipe (wipe σ vs) vs = wipe σ vs := fun vs => by
  have key : ∀ (ws : List Nat), (∀ i ∈ ws, i ∈ vs) → wipe (wipe σ ws) vs = wipe σ vs := by
    intro ws
    induction ws with
    | nil => intro _; rfl
    | cons w ws ih =>
      intro h
      show wipe ((wipe σ ws).set w none) vs = _
      rw [wipe_set (h w List.mem_cons_self), ih fun i hi => h i (List.mem_cons_of_mem _ hi)]
  exact key vs fun _ h => h
theorem wipe_RS {K : PySem.W.Frag} {H : Hp} {σ : SU} {σv : L2.St} (r : RS T K H σ σv) : ∀ vs : List Nat, RS T K H (wipeU σ vs) (wipe σv vs)
  | [] => r
  | v :: vs => by
    unfold wipeU wipe
    exact (wipe_RS r vs).unset v none
theorem lc_below {own : List Nat} (ho : ∀ i ∈ slotsT t, i ∈ own) (σv : L2.St) (H : Hp) (Qv : VK)
    (h : lE T X.K (fun σ G Q => wi σ G fun src items G1 => ∀ D, G1 D = none → lcU (gU t) tt te src D (wipeU σ own) (Q (.ref D)) items [] (put G1 D (.lst []))) σv H Qv) :
    tLc (lI T X.K wi) (gV X.K t) (lT T X.K tt) (lE T X.K te) own σv H Qv := by
  obtain ⟨σ, G, Q, rs, ab, h, q⟩ := h
  refine ⟨σ, G, _, rs, ab, h, fun J H0 src items G0 t0 ab0 wk h0 => ?_⟩
  intro D nD
  have tN : TL X.K H0 (upd H0 D (.lst [])) := TL.new nD
  have nt : isTup (H0 D) = false := by rw [nD]; rfl
  refine ⟨fun i m H => ∃ G acc, m = items.length - i ∧ i ≤ items.length ∧ TL X.K H0 H ∧ Abs T X.K H G ∧ lcU (gU t) tt te src D (wipeU σ own) (Q (.ref D)) (items.drop i) acc G,
    ⟨items.length, put G0 D (.lst []), [], by omega, by omega, tN, ab0.put nt ⟨[], upd_same, .nil⟩, h0 D (ab0.free nD)⟩, ?_⟩
  rintro i m H1 ⟨G1, acc, rfl, hi, t1, ab1, h1⟩
  by_cases hlt : i < items.length
  · have e : items.drop i = items[i] :: items.drop (i + 1) := List.drop_eq_getElem_cons hlt
    rw [e] at h1
    obtain ⟨hs, h1⟩ := h1
    refine .inr ⟨wk.go i H1 G1 t1 ab1 hs hlt, fun H' => ∃ G' acc', TL X.K H0 H' ∧ Abs T X.K H' G' ∧ lcU (gU t) tt te src D (wipeU σ own) (Q (.ref D)) (items.drop (i + 1)) acc' G', ?_, fun xv H2 y => ?_⟩
    · rintro H' ⟨G', acc', t', ab', h'⟩
      exact ⟨items.length - (i + 1), by omega, G', acc', rfl, hlt, t', ab', h'⟩
    · obtain ⟨t2, ab2, rx⟩ := wk.yld i H1 G1 xv H2 t1 ab1 hs y
      have rx := rx items[i] (List.getElem?_eq_getElem hlt)
      have rsW : RS T X.K H2 (wipeU σ own) (wipe σv own) := wipe_RS (rs.mono ((t0.trans t1).trans t2)) own
      refine gU_gV t items[i] xv _ _ G1 _ _ rx rsW h1 fun σv2 σ2 rs2 h2 hw => ?_
      refine ⟨by rw [hw own ho]; exact wipe_wipe σv own, σ2, G1, _, rs2, ab2, h2, fun k H3 ⟨G3, t3, ab3, h3⟩ => ?_⟩
      cases k with
      | true =>
        refine ⟨σ2, G3, _, rs2.mono t3, ab3, h3, fun yv H4 ⟨y', G4, t4, ab4, ry, hD, hz, h4⟩ => ?_⟩
        obtain ⟨ws, hw4, rw4⟩ := ab4 _ _ hD
        have nt4 : isTup (H4 D) = false := by rw [hw4]; rfl
        refine ⟨ws, hw4, by rw [← rw4.length]; exact hz, put G4 D (.lst (acc ++ [y'])), acc ++ [y'], (((t1.trans t2).trans t3).trans t4).trans (TL.upd nt4), ab4.put nt4 ⟨_, upd_same, RUs.mono (TL.upd nt4) _ _ (rw4.append (.cons ry .nil))⟩, h4⟩
      | false => exact ⟨G3, acc, ((t1.trans t2).trans t3), ab3, h3⟩
  · have ei : i = items.length := by omega
    subst ei
    rw [List.drop_length] at h1
    exact .inl ⟨wk.stop H1 G1 t1 ab1 h1.1, q _ _ ⟨.ref D, G1, t0.trans t1, ab1, .ref D, h1.2⟩⟩
end
end Y

namespace Y
open PySem PySem.Spec PyProof.Rows L2

/-! ### statements -/
section
variable {T : Tb} {X : Cx} {e c o tg : Expr} {st : Stmt} {rest sa sb : List Stmt} {te tc to ta tb : TEU} {t1 t2 : TSU} {pos pos' : Pos} {t : Tg}
theorem q_pass : QS T X (.Pass pos) (fun D σ G => D.nx σ G) := PSi ps_pass fun D σv H h => by
  obtain ⟨σ, G, DU, rs, ab, h, hnx, _⟩ := h
  exact hnx _ _ ⟨σ, G, TL.refl _, ab, rs, h⟩
theorem q_brk : QS T X (.Break pos) (fun D σ G => D.bk σ G) := PSi ps_break fun D σv H h => by
  obtain ⟨σ, G, DU, rs, ab, h, hnx, hrt, hbk, hct⟩ := h
  exact hbk _ _ ⟨σ, G, TL.refl _, ab, rs, h⟩
theorem q_cnt : QS T X (.Continue pos) (fun D σ G => D.ct σ G) := PSi ps_continue fun D σv H h => by
  obtain ⟨σ, G, DU, rs, ab, h, hnx, hrt, hbk, hct⟩ := h
  exact hct _ _ ⟨σ, G, TL.refl _, ab, rs, h⟩
theorem q_expr (he : QE T X e te) (hs : swapsWith e none pos.line X.env = pure false) : QS T X (.Expr e pos) (fun D σ G => te σ G fun _ G1 => D.nx σ G1) := PSi (ps_expr he hs) fun D σv H h => by
  obtain ⟨σ, G, DU, rs, ab, h, hnx, hrt, hbk, hct⟩ := h
  exact ⟨σ, G, _, rs, ab, h, fun v H1 ⟨x, G1, t1, ab1, rx, h1⟩ => hnx _ _ ⟨σ, G1, t1, ab1, rs.mono t1, h1⟩⟩
theorem q_ret (he : QE T X e te) : QS T X (.Return (some e) pos) (fun D σ G => te σ G D.rt) := PSi (ps_ret he) fun D σv H h => by
  obtain ⟨σ, G, DU, rs, ab, h, hnx, hrt, hbk, hct⟩ := h
  exact ⟨σ, G, _, rs, ab, h, fun v H1 z => hrt _ _ z⟩
theorem q_retN : QS T X (.Return none pos) (fun D _ G => D.rt .non G) := PSi ps_retN fun D σv H h => by
  obtain ⟨σ, G, DU, rs, ab, h, hnx, hrt, hbk, hct⟩ := h
  exact hrt _ _ (QV.same ab .non h)
theorem q_if (hc : QT T X c (tstU tc)) (ha : QSs T X sa t1) (hb : QSs T X sb t2) : QS T X (.If c sa sb pos) (fun D σ G => tc σ G fun x G1 => isB x fun k => if k = true then t1 D σ G1 else t2 D σ G1) :=
  PSi (ps_if hc ha hb) fun D σv H h => by
    obtain ⟨σ, G, DU, rs, ab, h, hnx, hrt, hbk, hct⟩ := h
    refine ⟨σ, G, fun k G1 => if k = true then t1 DU σ G1 else t2 DU σ G1, rs, ab, h, fun k H1 ⟨G1, u1, ab1, h1⟩ => ?_⟩
    cases k with
    | true => exact ⟨σ, G1, DU, rs.mono u1, ab1, h1, fun _ _ z => hnx _ _ (z.from u1), fun _ _ z => hrt _ _ (z.from u1), fun _ _ z => hbk _ _ (z.from u1), fun _ _ z => hct _ _ (z.from u1)⟩
    | false => exact ⟨σ, G1, DU, rs.mono u1, ab1, h1, fun _ _ z => hnx _ _ (z.from u1), fun _ _ z => hrt _ _ (z.from u1), fun _ _ z => hbk _ _ (z.from u1), fun _ _ z => hct _ _ (z.from u1)⟩
theorem q_nil : QSs T X [] (fun D σ G => D.nx σ G) := PSsi pss_nil fun D σv H h => by
  obtain ⟨σ, G, DU, rs, ab, h, hnx, _⟩ := h
  exact hnx _ _ ⟨σ, G, TL.refl _, ab, rs, h⟩
theorem q_cons (h1 : QS T X st t1) (h2 : QSs T X rest t2) : QSs T X (st :: rest) (fun D σ G => t1 { nx := fun σ' G' => ∃ G2, Sub G2 G' ∧ t2 D σ' G2, rt := D.rt, bk := D.bk, ct := D.ct } σ G) :=
  PSsi (pss_cons h1 h2) fun D σv H h => by
    obtain ⟨σ, G, DU, rs, ab, h, hnx, hrt, hbk, hct⟩ := h
    refine ⟨σ, G, _, rs, ab, h, fun σv' H' z => ?_, hrt, hbk, hct⟩
    obtain ⟨σ1, G1, u1, ab1, rs1, G2, s2, h2⟩ := z
    exact ⟨σ1, G2, DU, rs1, ab1.sub s2, h2, fun _ _ z => hnx _ _ (z.from u1), fun _ _ z => hrt _ _ (z.from u1), fun _ _ z => hbk _ _ (z.from u1), fun _ _ z => hct _ _ (z.from u1)⟩
theorem asg_below (D : Ends) (σv : L2.St) (H : Hp) (h : lS T X.K (fun D σ G => te σ G fun x G1 => gU t x σ G1 D.nx) D σv H) : tAsg (lE T X.K te) (gV X.K t) D σv H := by
  obtain ⟨σ, G, DU, rs, ab, h, hnx, hrt, hbk, hct⟩ := h
  refine ⟨σ, G, _, rs, ab, h, fun v H1 ⟨x, G1, u1, ab1, rx, h1⟩ => ?_⟩
  exact gU_gV t x v σ σv G1 _ _ rx (rs.mono u1) h1 fun σv2 σ2 rs2 h2 _ => hnx _ _ ⟨σ2, G1, u1, ab1, rs2, h2⟩
theorem q_asg (he : QE T X e te) (hg : PG X tg (gV X.K t)) (hs : swapsWithSole [tg] e pos.line X.env = pure false) (hw : swappedStores [tg] e X.env = pure none) (h1 : (assignEach [tg] X.env).map (·.2) = [assign tg X.env]) :
    QS T X (.Assign [tg] e pos) (fun D σ G => te σ G fun x G1 => gU t x σ G1 D.nx) := PSi (ps_asg he hg hs hw h1) fun D σv H h => asg_below D σv H h
theorem q_set {i : Nat} {x : Str} (hN : X.N.Nodup) (hi : X.N[i]? = some x) (hx : Loc X.env.scope x) (he : QE T X e te) (hs : swapsWith e (some (.Name x pos')) pos.line X.env = pure false) (hf : X.fn x = true ∨ X.env.scope.names.lookup x = some .local) :
    QS T X (.Assign [.Name x pos'] e pos) (fun D σ G => te σ G fun x G1 => gU (.name i) x σ G1 D.nx) := PSi (ps_set hN hi hx he hs hf) fun D σv H h => asg_below (t := .name i) D σv H h
theorem q_par {i j : Nat} {x y : Str} {a b : Expr} {px py pt : Pos} {kt k2 pt2} (hc : X.calm = true) (hN : X.N.Nodup) (hi : X.N[i]? = some x) (hj : X.N[j]? = some y) (hij : i ≠ j)
    (hx : X.env.scope.names.lookup x = some .local) (hy : X.env.scope.names.lookup y = some .local) (ha : QE T X a ta) (hb : QE T X b tb) (hsa : starEach [a, b] X.env = (false, eval a X.env) :: starEach [b] X.env) (hsb : starEach [b] X.env = (false, eval b X.env) :: starEach [] X.env)
    (hw : swappedStores [.Tuple [.Name x px, .Name y py] kt pt] (.Tuple [a, b] k2 pt2) X.env = pure (some [x, y]))
    (hs : swapsWithSole [.Tuple [.Name x px, .Name y py] kt pt] (.Tuple [a, b] k2 pt2) pos.line X.env = pure false) :
    QS T X (.Assign [.Tuple [.Name x px, .Name y py] kt pt] (.Tuple [a, b] k2 pt2) pos) (fun D σ G => ta σ G fun x G1 => tb σ G1 fun y G2 => D.nx ((σ.set i (some x)).set j (some y)) G2) :=
  PSi (ps_par hc hN hi hj hij hx hy (pa_cons ha (pa_cons hb pa_nil hsb) hsa) hw hs) fun D σv H h => by
    obtain ⟨σ, G, DU, rs, ab, h, hnx, hrt, hbk, hct⟩ := h
    refine ⟨σ, G, _, rs, ab, h, fun v H1 ⟨x, G1, u1, ab1, rx, h1⟩ => ⟨σ, G1, _, rs.mono u1, ab1, h1, fun w H2 ⟨y, G2, u2, ab2, ry, h2⟩ => ⟨v, w, rfl, ?_⟩⟩⟩
    exact hnx _ _ ⟨_, G2, u1.trans u2, ab2, ((rs.mono (u1.trans u2)).set i (RU.mono u2 _ _ rx)).set j ry, h2⟩
theorem q_aug {i : Nat} {x : Str} (hN : X.N.Nodup) (hi : X.N[i]? = some x) (hx : Loc X.env.scope x) (he : QE T X e te) (hf : X.fn x = true ∨ X.env.scope.names.lookup x = some .local) :
    QS T X (.AugAssign (.Name x pos') .Add e pos) (fun D σ G => match σ[i]? with
      | some (some (.int x)) => te σ G fun y G1 => partU y fun j => D.nx (σ.set i (some (.int (x + j)))) G1
      | _ => False) :=
  PSi (ps_aug hN hi hx he ip_add hf) fun D σv H h => by
    obtain ⟨σ, G, DU, rs, ab, h, hnx, hrt, hbk, hct⟩ := h
    split at h
    · rename_i z ez
      obtain ⟨v, ev, rv⟩ := rs.2 _ _ ez
      cases rv
      refine ⟨_, ev, σ, G, _, rs, ab, h, fun w H1 ⟨y, G1, u1, ab1, ry, h1⟩ => ?_⟩
      obtain ⟨j, ej, _, h1⟩ := partU_of h1 ry
      exact ⟨z, j, rfl, ej, hnx _ _ ⟨_, G1, u1, ab1, (rs.mono u1).set i (.int _), h1⟩⟩
    · exact h.elim
end
end Y

namespace Y
open PySem PySem.Spec PyProof.Rows L2

/-! ### from the text to its form -/
structure CE where
  N : List Str
  cons : List (Str × U)
  fns : List (Str × Nat)
  blt : List Str
def ixS : List Str → Str → Option Nat
  | [], _ => none
  | y :: r, x => if y = x then some 0 else (ixS r x).map (· + 1)
theorem ixS_get : ∀ {l : List Str} {x : Str} {i : Nat}, ixS l x = some i → l[i]? = some x
  | [], _, _, h => by cases h
  | y :: r, x, i, h => by
    unfold ixS at h
    split at h
    · rename_i e
      cases h
      rw [← e]; rfl
    · rw [Option.map_eq_some_iff] at h
      obtain ⟨j, hj, rfl⟩ := h
      show r[j]? = some x
      exact ixS_get hj
def bis : List Bi := [.len, .all, .any, .sum, .abs, .min, .max, .int, .str, .list, .tuple, .isi]
def biOf (x : Str) : Option Bi := bis.find? fun b => decide (b.nm = x)
theorem biOf_nm {x : Str} {b : Bi} (h : biOf x = some b) : b.nm = x := by
  have := List.find?_some h
  exact of_decide_eq_true this
def bms : List Bm := [.append, .extend, .startswith, .split, .join, .sindex]
def bmOf (x : Str) : Option Bm := bms.find? fun b => decide (b.nm = x)
theorem bmOf_nm {x : Str} {b : Bm} (h : bmOf x = some b) : b.nm = x := by
  have := List.find?_some h
  exact of_decide_eq_true this
def BT.py : BT → Str
  | .non => "NoneType" | .bool => "bool" | .int => "int" | .str => "str" | .tup => "tuple" | .lst => "list" | .dic => "dict"
def tys : List BT := [.bool, .int, .str, .tup, .lst, .dic]
def tyOf (x : Str) : Option BT := tys.find? fun b => decide (b.py = x)
theorem tyOf_ok {x : Str} {b : BT} (h : tyOf x = some b) : bootBuiltins x = some (.type b.nm) ∧ x ≠ "__name__" := by
  have h1 := List.find?_some h
  have h2 := List.mem_of_find?_eq_some h
  have e : b.py = x := of_decide_eq_true h1
  subst e
  cases b <;> first
    | exact ⟨by decide +kernel, by decide +kernel⟩
    | exact absurd h2 (by decide)
def dbg (x : Str) : Bool := (x == ("__debug__" : Str)) || (x == ("__classdict__" : Str))
def cName (ce : CE) (sc : Scope) (x : Str) : Option Ex :=
  if dbg x = true then none else
  match sc.names.lookup x with
  | some .local => (ixS ce.N x).map .var
  | some .cell => (ixS ce.N x).map .var
  | some .free => (ixS ce.N x).map .var
  | some .globalImplicit => (match ce.cons.lookup x with
    | some u => some (.lit u)
    | none => if ce.blt.contains x = true then (tyOf x).map fun t => .lit (.ty t) else none)
  | _ => none
def cConst : Const → Option Ex
  | .none => some (.lit .non)
  | .bool b => some (.lit (.bl b))
  | .int i => some (.lit (.int i))
  | .str x => some (.lit (.str x))
  | _ => none
def cEs (f : Expr → Option Ex) : List Expr → Option Exs
  | [] => some .nil
  | e :: es => (f e).bind fun x => (cEs f es).bind fun r => some (.cons x r)
def cO (f : Expr → Option Ex) : Option Expr → Option Exo
  | none => some .none
  | some e => (f e).map .some
def cB (f : Expr → Option Ex) (op : BoolOp) : List Expr → Option Ex
  | [] => none
  | [e] => f e
  | e :: es => (f e).bind fun x => (cB f op es).bind fun r => some (match op with
    | .And => .conj x r
    | .Or => .disj x r)
/-- may x be stored -/
def stOk (sc : Scope) (fo : Str → Bool) (x : Str) : Bool := match sc.names.lookup x with
  | some .local => true
  | some .cell => fo x
  | _ => false
def cT (ce : CE) (sc : Scope) (fo : Str → Bool) : Nat → Expr → Option Tg
  | 0, _ => none
  | n + 1, e => match e with
    | .Name x _ => if stOk sc fo x = true then (ixS ce.N x).map .name else none
    | .Tuple es _ _ => (cTs (cT ce sc fo n) es).map .tup
    | _ => none
where cTs (f : Expr → Option Tg) : List Expr → Option (List Tg)
  | [] => some []
  | e :: es => (f e).bind fun x => (cTs f es).bind fun r => some (x :: r)
def ownOf (N : List Str) (scope : Scope) : List (Str × Nat) := scope.names.filterMap fun p => match p.2 with
  | .local => (ixS N p.1).map fun i => (p.1, i)
  | .cell => (ixS N p.1).map fun i => (p.1, i)
  | _ => none
def ownI (N : List Str) (scope : Scope) : List Nat := (ownOf N scope).map fun (p : Str × Nat) => p.2
def cellOf (scope : Scope) (x : Str) : Bool := scope.names.lookup x == some .cell
def isGl (sc : Scope) (x : Str) : Bool := sc.names.lookup x == some .globalImplicit
def cI (ce : CE) (f : Expr → Option Ex) (sc : Scope) (e : Expr) : Option It' := match e with
  | .Call (.Name x _) [a] [] _ => if (decide (x = "range") && isGl sc x && ce.blt.contains x) = true then (f a).map .rng1 else (f e).map .ex
  | .Call (.Name x _) [a, b] [] _ => if (decide (x = "range") && isGl sc x && ce.blt.contains x) = true then (f a).bind fun x => (f b).bind fun y => some (.rng2 x y) else (f e).map .ex
  | e => (f e).map .ex
def notSet : Expr → Bool
  | .Set _ _ _ => false
  | .Slice _ _ _ _ => false
  | .Starred _ _ => false
  | _ => true
def cIfs (f : Expr → Option Ex) : List Expr → Option Exo
  | [] => some .none
  | [c] => (f c).map .some
  | _ => none
/-- no call without arguments stands ahead of the dot -/
def rcv : Expr → Bool
  | .Call (.Name _ _) [] [] _ => false
  | _ => true
def cE (ce : CE) : Nat → Scope → Expr → Option Ex
  | 0, _, _ => none
  | n + 1, sc, e => match e with
    | .Name x _ => cName ce sc x
    | .Constant c _ _ => cConst c
    | .BinOp a op b _ => (cE ce n sc a).bind fun x => (cE ce n sc b).bind fun y => some (.bin op x y)
    | .UnaryOp .USub a _ => (cE ce n sc a).map .neg
    | .UnaryOp .Not a _ => (cE ce n sc a).map .inv
    | .Compare a [op] [b] _ => (cE ce n sc a).bind fun x => (cE ce n sc b).bind fun y => some (.cmp op x y)
    | .Compare a [op, op'] [b, c] _ => (cE ce n sc a).bind fun x => (cE ce n sc b).bind fun y => (cE ce n sc c).bind fun z => some (.chn op op' x y z)
    | .BoolOp op vs _ => cB (cE ce n sc) op vs
    | .IfExp c a b _ => (cE ce n sc c).bind fun z => (cE ce n sc a).bind fun x => (cE ce n sc b).bind fun y => some (.ite z x y)
    | .Subscript a (.Slice lo hi none _) _ => (cE ce n sc a).bind fun x => (cO (cE ce n sc) lo).bind fun l => (cO (cE ce n sc) hi).bind fun h => some (.slc x l h)
    | .Subscript a b _ => (cE ce n sc a).bind fun x => (cE ce n sc b).bind fun y => some (.ix x y)
    | .Tuple es _ _ => (cEs (cE ce n sc) es).map .tup
    | .List es _ => (cEs (cE ce n sc) es).map .lst
    | .Dict [] [] _ => some .emp
    | .Call (.Name x _) es [] _ => if (isGl sc x && !(dbg x)) = true then (match ce.fns.lookup x with
        | some f => (cEs (cE ce n sc) es).map fun r => .call f r
        | none => if (ce.blt.contains x && !es.isEmpty) = true then (biOf x).bind fun b => (cEs (cE ce n sc) es).map fun r => .blt b r else none)
      else none
    | .Call (.Attribute o m apos) (e :: es) [] pos => if (decide (apos.endLine = pos.line) && decide (es.length < 20) && rcv o) = true then
        (bmOf m).bind fun b => (cE ce n sc o).bind fun x => (cEs (cE ce n sc) (e :: es)).map fun r => .btm x b r else none
    | .ListComp elt [⟨tg, iter, ifs, 0⟩] scope _ =>
        if blkC ce.N sc scope (ownOf ce.N scope) = true then
          (cE ce n (relS scope sc) elt).bind fun x => (cT ce (relS scope sc) (cellOf scope) n tg).bind fun t => (cI ce (cE ce n sc) sc iter).bind fun it =>
            (cIfs (cE ce n (relS scope sc)) ifs).bind fun c =>
              if (slotsT t).all (fun i => (ownI ce.N scope).contains i) = true then some (.lc x (ownI ce.N scope) t it c) else none
        else none
    | _ => none
def cS (ce : CE) (sc : Scope) (fo : Str → Bool) : Nat → Stmt → Option Sm
  | 0, _ => none
  | n + 1, s => match s with
    | .Pass _ => some .pass
    | .Break _ => some .brk
    | .Continue _ => some .cnt
    | .Expr (.ListComp _ _ _ _) _ => none
    | .Expr e _ => (cE ce n sc e).map .expr
    | .Return none _ => some .retN
    | .Return (some e) _ => (cE ce n sc e).map .ret
    | .If c a b _ => (cE ce n sc c).bind fun x => (cSs (cS ce sc fo n) a).bind fun p => (cSs (cS ce sc fo n) b).bind fun q => some (.ifs x p q)
    | .While c b [] _ => (cE ce n sc c).bind fun x => (cSs (cS ce sc fo n) b).bind fun p => some (.whl x p)
    | .For tg it b [] _ => (cT ce sc fo n tg).bind fun t => (cI ce (cE ce n sc) sc it).bind fun i => (cSs (cS ce sc fo n) b).bind fun p => some (.fors t i p)
    | .Assign [.Name x px] (.ListComp elt gs scope lp) pos => if (decide (sc.names.lookup x = some .local) && decide (px.line = lp.line) && !(scope.names.any fun p => p.1 == x && (p.2 == .local || p.2 == .cell))) = true then
        (ixS ce.N x).bind fun i => (cE ce n sc (.ListComp elt gs scope lp)).map fun y => .set (.name i) y else none
    | .Assign [.Name x _] e _ => if stOk sc fo x = true then (ixS ce.N x).bind fun i => (cE ce n sc e).map fun y => .set (.name i) y else none
    | .Assign [.Tuple [.Name x px, .Name y py] _ _] (.Tuple [a, b] _ _) _ =>
        if (decide (sc.names.lookup x = some .local) && decide (sc.names.lookup y = some .local) && decide (px.line = py.line) && !(decide (x = y)) && !(foldedForSure 8 a && foldedForSure 8 b) && !(constantsAlone 8 a && constantsAlone 8 b)) = true then
          (ixS ce.N x).bind fun i => (ixS ce.N y).bind fun j => (cE ce n sc a).bind fun p => (cE ce n sc b).bind fun q => if i = j then none else some (.par i j p q) else none
    | .Assign [.Tuple ts k p] e _ => (match e with
        | .Tuple _ _ _ => none
        | .ListComp _ _ _ _ => none
        | e => (cT ce sc fo n (.Tuple ts k p)).bind fun t => (cE ce n sc e).map fun y => .set t y)
    | .AugAssign (.Name x _) .Add e _ => if stOk sc fo x = true then (ixS ce.N x).bind fun i => (cE ce n sc e).map fun y => .aug i .Add y else none
    | _ => none
where cSs (f : Stmt → Option Sm) : List Stmt → Option Sms
  | [] => some .nil
  | s :: ss => (f s).bind fun x => (cSs f ss).bind fun r => some (.cons x r)
end Y

namespace Y
open PySem PySem.Spec PyProof.Rows L2

structure MF (T : Tb) (Γ : Gm) (ce : CE) (P : Program) (w : World) (K : PySem.W.Frag) (mg : Str → Option Value) (base : Heap) (k : Nat) : Prop where
  fn : ∀ x i, ce.fns.lookup x = some i → ∃ f, mg x = some (.ref f) ∧ FnN T P w K mg base k f (Γ.ar i) (Γ.fn i)
  con : ∀ x u, ce.cons.lookup x = some u → ∃ v val, mg x = some val ∧ L2.RelV v val ∧ ∀ H, RU T K H u v
  blt : ∀ x, ce.blt.contains x = true → mg x = none
structure GoodC (T : Tb) (Γ : Gm) (ce : CE) (sc : Scope) (fo : Str → Bool) (k : Nat) (E : XS) (X : Cx) : Prop where
  eN : X.N = ce.N
  eS : X.env.scope = sc
  eK : sc.kind = .function
  eF : ∀ x, fo x = true → X.fn x = true
  nd : ce.N.Nodup
  calm : X.calm = true
  room : Room k X.A
  pass : PassesOwn (model X.prog X.w) X.A X.env X.xe
  tk : Takes X (WU T X.K E)
  mf : MF T Γ ce X.prog X.w X.K X.mg X.base k
section
variable {T : Tb} {Γ : Gm} {ce : CE} {sc : Scope} {fo : Str → Bool} {k : Nat} {E : XS} {X : Cx}
theorem cE_star {n : Nat} {e : Expr} {ir : Ex} (h : cE ce n sc e = some ir) (es : List Expr) (env : Env) : starEach (e :: es) env = (false, eval e env) :: starEach es env := by
  cases n with
  | zero => cases h
  | succ n => cases e <;> first
    | rfl
    | (simp only [cE] at h; cases h)
theorem cEs_plain {n : Nat} {env : Env} {pos : Pos} : ∀ {es : List Expr} {irs : Exs}, cEs (cE ce n sc) es = some irs → (backTo pos (starEach es env)).any (·.1) = false ∧ (backTo pos (starEach es env)).all (fun x => !x.1) = true
  | [], _, _ => ⟨rfl, rfl⟩
  | e :: es, irs, h => by
    simp only [cEs, Option.bind_eq_some_iff] at h
    obtain ⟨x, hx, r, hr, _⟩ := h
    obtain ⟨h1, h2⟩ := cEs_plain (env := env) (pos := pos) hr
    rw [cE_star hx es env]
    exact ⟨by show (false || (backTo pos (starEach es env)).any (·.1)) = false; rw [h1]; rfl, by show (true && (backTo pos (starEach es env)).all (fun x => !x.1)) = true; rw [h2]; rfl⟩
theorem cE_notSet {n : Nat} {e : Expr} {ir : Ex} (h : cE ce n sc e = some ir) : notSet e = true := by
  cases n with
  | zero => cases h
  | succ n => cases e <;> first
    | rfl
    | (simp only [cE] at h; cases h)
theorem marks_of {op : CmpOp} {e : Expr} (h : notSet e = true) : behindInMarks op e = false := by
  cases e <;> first
    | rfl
    | cases h
theorem plainIx_of {e : Expr} (h : notSet e = true) : PlainIx e := by
  intro o i
  cases e <;> first
    | rfl
    | cases h
theorem fold_of {e : Expr} (h : notSet e = true) (env : Env) (x : Value) : foldedSetIterable e env x = pure x := by
  cases e <;> first
    | rfl
    | cases h
theorem base_of {o : Expr} {m : Str} {env : Env} {whole : Sem Value} (h : rcv o = true) : attributeBase o m env whole = whole := by
  unfold attributeBase
  split
  · rename_i e _
    cases h
  · rfl
theorem cI_notSet {n : Nat} {e : Expr} {i : It'} (h : cI ce (cE ce n sc) sc e = some i) : notSet e = true := by
  unfold cI at h
  split at h
  · rfl
  · rfl
  · rw [Option.map_eq_some_iff] at h
    obtain ⟨x, hx, _⟩ := h
    exact cE_notSet hx
/-- names -/
theorem snd_name (g : GoodC T Γ ce sc fo k E X) {x : Str} {pos : Pos} {ir : Ex} (h : cName ce sc x = some ir) : QE T X (.Name x pos) (wpE Γ ir E) := by
  unfold cName at h
  split at h
  · cases h
  · rename_i hd
    have hd' : dbg x = false := by simpa using hd
    unfold dbg at hd'
    rw [Bool.or_eq_false_iff] at hd'
    have fin : ∀ {i : Nat}, ixS ce.N x = some i → Vis X.env.scope x → QE T X (.Name x pos) (wpE Γ (.var i) E) := fun {i} hi hv => q_var (by rw [g.eN]; exact ixS_get hi) hv hd'.1 hd'.2
    split at h
    · rename_i hk
      rw [Option.map_eq_some_iff] at h
      obtain ⟨i, hi, rfl⟩ := h
      exact fin hi (.inl (by rw [g.eS]; exact hk))
    · rename_i hk
      rw [Option.map_eq_some_iff] at h
      obtain ⟨i, hi, rfl⟩ := h
      exact fin hi (.inr (.inl (by rw [g.eS]; exact hk)))
    · rename_i hk
      rw [Option.map_eq_some_iff] at h
      obtain ⟨i, hi, rfl⟩ := h
      exact fin hi (.inr (.inr (by rw [g.eS]; exact hk)))
    · rename_i hk
      have hg : Gl X x := by show X.env.scope.names.lookup x = _; rw [g.eS]; exact hk
      split at h
      · rename_i u hu
        cases h
        obtain ⟨v, val, hm, r, ru⟩ := g.mf.con x u hu
        exact q_con (pe_glob hg hm r hd'.1) ru
      · split at h
        · rename_i hb
          rw [Option.map_eq_some_iff] at h
          obtain ⟨t, ht, rfl⟩ := h
          obtain ⟨h1, h2⟩ := tyOf_ok ht
          exact q_con (pe_bltn (v := .ty t.nm) hg (g.mf.blt x hb) h1 rfl h2 hd'.1) fun H => .ty t
        · cases h
    · cases h
theorem snd_const {c : Const} {j : Nat} {pos : Pos} {ir : Ex} (h : cConst c = some ir) : QE T X (.Constant c j pos) (wpE Γ ir E) := by
  cases c <;> first
    | (cases h; exact q_con pe_non fun H => .non)
    | (cases h; exact q_con pe_bl fun H => .bl _)
    | (cases h; exact q_con pe_int fun H => .int _)
    | (cases h; exact q_con pe_str fun H => .str _)
    | cases h
/-- what is shown of an expression -/
def SE (T : Tb) (Γ : Gm) (ce : CE) (k n : Nat) : Prop := ∀ (sc : Scope) (e : Expr) (ir : Ex), cE ce n sc e = some ir → ∀ (fo : Str → Bool) (E : XS) (X : Cx), GoodC T Γ ce sc fo k E X → QE T X e (wpE Γ ir E) ∧ QT T X e (tstU (wpE Γ ir E))
theorem snd_es {n : Nat} (IH : SE T Γ ce k n) (g : GoodC T Γ ce sc fo k E X) : ∀ {es : List Expr} {irs : Exs}, cEs (cE ce n sc) es = some irs → QA T X es (wpEs Γ irs E)
  | [], irs, h => by cases h; exact qa_nil
  | e :: es, irs, h => by
    simp only [cEs, Option.bind_eq_some_iff] at h
    obtain ⟨x, hx, r, hr, h⟩ := h
    cases h
    exact qa_cons (IH sc e x hx fo E X g).1 (snd_es IH g hr) (cE_star hx es X.env)
theorem snd_o {n : Nat} (IH : SE T Γ ce k n) (g : GoodC T Γ ce sc fo k E X) {e : Option Expr} {o : Exo} (h : cO (cE ce n sc) e = some o) : PO X e (lO T X.K (wpO Γ o E)) := by
  cases e with
  | none => cases h; exact qo_none
  | some e =>
    simp only [cO, Option.map_eq_some_iff] at h
    obtain ⟨x, hx, rfl⟩ := h
    exact qo_some (IH sc e x hx fo E X g).1
theorem snd_b {n : Nat} (IH : SE T Γ ce k n) (g : GoodC T Γ ce sc fo k E X) {op : BoolOp} {pos : Pos} : ∀ {es : List Expr} {ir : Ex}, cB (cE ce n sc) op es = some ir → QE T X (.BoolOp op es pos) (wpE Γ ir E) ∧ QW T X (.BoolOp op es pos) (tstU (wpE Γ ir E))
  | [], ir, h => by cases h
  | [e], ir, h => by
    obtain ⟨h1, h2⟩ := IH sc e ir h fo E X g
    refine ⟨q_one h1, ?_⟩
    cases op with
    | And => exact qw_and1 h2
    | Or => exact qw_or1 h2
  | e :: e2 :: es, ir, h => by
    simp only [cB, Option.bind_eq_some_iff] at h
    obtain ⟨x, hx, r, hr, h⟩ := h
    cases h
    obtain ⟨h1, h2⟩ := IH sc e x hx fo E X g
    obtain ⟨h3, h4⟩ := snd_b IH g (op := op) (pos := pos) (es := e2 :: es) hr
    cases op with
    | And => exact ⟨q_and h1 h3, qw_and h2 h4⟩
    | Or => exact ⟨q_or h1 h3, qw_or h2 h4⟩
end
end Y

namespace Y
open PySem PySem.Spec PyProof.Rows L2
section
variable {T : Tb} {Γ : Gm} {ce : CE} {sc : Scope} {fo : Str → Bool} {k : Nat} {E : XS} {X : Cx}
theorem cT_star {n : Nat} {e : Expr} {t : Tg} (h : cT ce sc fo n e = some t) (es : List Expr) (env : Env) : assignEach (e :: es) env = (false, assign e env) :: assignEach es env := by
  cases n with
  | zero => cases h
  | succ n => cases e <;> first
    | rfl
    | (simp only [cT] at h; cases h)
theorem cTs_plain {n : Nat} {env : Env} : ∀ {es : List Expr} {ts : List Tg}, cT.cTs (cT ce sc fo n) es = some ts → (assignEach es env).length = lenT ts ∧ (assignEach es env).findIdx? (·.1) = none
  | [], ts, h => by cases h; exact ⟨rfl, rfl⟩
  | e :: es, ts, h => by
    simp only [cT.cTs, Option.bind_eq_some_iff] at h
    obtain ⟨x, hx, r, hr, h⟩ := h
    cases h
    obtain ⟨h1, h2⟩ := cTs_plain (env := env) hr
    rw [cT_star hx es env]
    refine ⟨by rw [List.length_cons, h1, lenT], ?_⟩
    rw [List.findIdx?_cons]
    simp [h2]
theorem st_loc (g : GoodC T Γ ce sc fo k E X) {x : Str} (h : stOk sc fo x = true) : Loc X.env.scope x ∧ (X.fn x = true ∨ X.env.scope.names.lookup x = some .local) := by
  unfold stOk at h
  rw [g.eS]
  split at h
  · rename_i hk; exact ⟨.inl hk, .inr hk⟩
  · rename_i hk; exact ⟨.inr hk, .inl (g.eF x h)⟩
  · cases h
mutual
theorem snd_t (g : GoodC T Γ ce sc fo k E X) : ∀ {n : Nat} {e : Expr} {t : Tg}, cT ce sc fo n e = some t → PG X e (gV X.K t)
  | 0, e, t, h => by cases h
  | n + 1, e, t, h => by
    unfold cT at h
    split at h
    · rename_i x pos
      split at h
      · rename_i hs
        rw [Option.map_eq_some_iff] at h
        obtain ⟨i, hi, rfl⟩ := h
        obtain ⟨h1, h2⟩ := st_loc g hs
        unfold gV
        exact pg_name (by rw [g.eN]; exact g.nd) (by rw [g.eN]; exact ixS_get hi) h1 h2
      · cases h
    · rename_i es kk pos
      rw [Option.map_eq_some_iff] at h
      obtain ⟨ts, hts, rfl⟩ := h
      obtain ⟨h1, h2⟩ := cTs_plain (env := X.env) hts
      unfold gV
      exact pg_tup g.calm (snd_ts g hts) h1 h2
    · cases h
theorem snd_ts (g : GoodC T Γ ce sc fo k E X) : ∀ {n : Nat} {es : List Expr} {ts : List Tg}, cT.cTs (cT ce sc fo n) es = some ts → PGs X es (gsV X.K ts)
  | n, [], ts, h => by cases h; unfold gsV; exact pgs_nil
  | n, e :: es, ts, h => by
    simp only [cT.cTs, Option.bind_eq_some_iff] at h
    obtain ⟨x, hx, r, hr, h⟩ := h
    cases h
    unfold gsV
    exact pgs_cons (snd_t g hx) (snd_ts g hr) (by rw [cT_star hx es X.env]; rfl)
end
theorem snd_i {n : Nat} (IH : SE T Γ ce k n) (g : GoodC T Γ ce sc fo k E X) {tg e : Expr} {i : It'} (h : cI ce (cE ce n sc) sc e = some i) : PI X tg e (lI T X.K (wpI Γ i E)) := by
  have gl : ∀ {x : Str}, isGl sc x = true → Gl X x := fun {x} hg => by
    show X.env.scope.names.lookup x = _
    rw [g.eS]
    exact beq_iff_eq.mp hg
  have ex : ∀ {e : Expr}, (cE ce n sc e).map It'.ex = some i → PI X tg e (lI T X.K (wpI Γ i E)) := fun {e} h => by
    rw [Option.map_eq_some_iff] at h
    obtain ⟨x, hx, rfl⟩ := h
    exact qi_seq (IH sc e x hx fo E X g).1
  unfold cI at h
  split at h
  · split at h
    · rename_i hc
      rw [Bool.and_eq_true, Bool.and_eq_true, decide_eq_true_eq] at hc
      obtain ⟨⟨rfl, hg⟩, hb⟩ := hc
      rw [Option.map_eq_some_iff] at h
      obtain ⟨x, hx, rfl⟩ := h
      exact qi_rng1 (gl hg) (g.mf.blt _ hb) (IH sc _ x hx fo E X g).1 (cE_star hx [] X.env)
    · exact ex h
  · split at h
    · rename_i hc
      rw [Bool.and_eq_true, Bool.and_eq_true, decide_eq_true_eq] at hc
      obtain ⟨⟨rfl, hg⟩, hb⟩ := hc
      simp only [Option.bind_eq_some_iff] at h
      obtain ⟨x, hx, y, hy, h⟩ := h
      cases h
      have s2 := cE_star hy [] X.env
      exact qi_rng2 (gl hg) (g.mf.blt _ hb) (IH sc _ x hx fo E X g).1 (IH sc _ y hy fo E X g).1 (by rw [cE_star hx, s2]; rfl) s2
    · exact ex h
  · exact ex h
theorem PTsi {X : Cx} {e : List Expr} {t t' : TT} (h : PTs X e t') (i : ∀ σ H Q, t σ H Q → t' σ H Q) : PTs X e t := ⟨fun pins s σ H Q I q => h.run pins s σ H Q I (i σ H Q q)⟩
/-- within a comprehension -/
theorem good_blk (g : GoodC T Γ ce sc fo k E X) {scope : Scope} {s : Shared} {H : Hp} {cl : List (Str × Addr)} {C : Addr} {fp : List Addr} (hk : scope.kind = .function) : GoodC T Γ ce (relS scope sc) (cellOf scope) k E0U (X.blk s H scope (compEnvC scope cl C X.env) fp) where
  eN := g.eN
  eS := by
    show relabel scope X.env = relS scope sc
    rw [← g.eS]
    rfl
  eK := hk
  eF := fun x h => h
  nd := g.nd
  calm := g.calm
  room := g.room
  pass := PassesOwn.never
  tk := fun u s' ⟨_, _, _, _, _, _, _, _, _, _, _, _, _, _, _, _, w⟩ => by
    obtain ⟨_, _, _, _, _, _, _, _, z⟩ := w
    exact z.elim
  mf := g.mf
theorem qt_ite {a b c : Expr} {ta tb tc : TEU} {pos : Pos} (hc : QT T X c (tstU tc)) (ha : QT T X a (tstU ta)) (hb : QT T X b (tstU tb)) : QT T X (.IfExp c a b pos) (tstU (iteU tc ta tb)) := by
  refine ⟨fun pins s σv H Qv I h => ?_⟩
  obtain ⟨σ, G, Q, rs, ab, h, q⟩ := h
  show wpAny _ _ (PySem.isTrue (.IfExp c a b pos) X.env _) _ _ _
  unfold PySem.isTrue
  refine wpAny_bind (thn (hc.run pins s σv H _ I ⟨σ, G, fun kk G1 => if kk = true then tstU ta σ G1 Q else tstU tb σ G1 Q, rs, ab, ?_, fun _ _ z => z⟩) fun d s1 ⟨H1, I1, G1, t1, ab1, h1⟩ => ?_)
  · exact h
  · cases d with
    | true => exact ha.run pins s1 σv H1 Qv I1 ⟨σ, G1, Q, rs.mono t1, ab1, h1, fun v H' z => q v H' (z.from t1)⟩
    | false => exact hb.run pins s1 σv H1 Qv I1 ⟨σ, G1, Q, rs.mono t1, ab1, h1, fun v H' z => q v H' (z.from t1)⟩
theorem snd_lc {n : Nat} (IH : SE T Γ ce k n) (g : GoodC T Γ ce sc fo k E X) {elt tg iter : Expr} {ifs : List Expr} {scope : Scope} {pos : Pos} {x : Ex} {t : Tg} {it : It'} {c : Exo} (hk : blkC ce.N sc scope (ownOf ce.N scope) = true) (hx : cE ce n (relS scope sc) elt = some x)
    (ht : cT ce (relS scope sc) (cellOf scope) n tg = some t) (hi : cI ce (cE ce n sc) sc iter = some it) (hc : cIfs (cE ce n (relS scope sc)) ifs = some c) (ho : (slotsT t).all (fun i => (ownI ce.N scope).contains i) = true) :
    (∃ (hg : ∀ (s : Shared) (H : Hp) (C : Addr) (cl : List (Str × Addr)) (fp : List Addr), PG (X.blk s H scope (compEnvC scope cl C X.env) fp) tg (gV X.K t)) (ht : ∀ (s : Shared) (H : Hp) (C : Addr) (cl : List (Str × Addr)) (fp : List Addr), PTs (X.blk s H scope (compEnvC scope cl C X.env) fp) ifs (lT T X.K (wpC Γ c)))
      (he : ∀ (s : Shared) (H : Hp) (C : Addr) (cl : List (Str × Addr)) (fp : List Addr), PE (X.blk s H scope (compEnvC scope cl C X.env) fp) elt (lE T X.K (wpE Γ x E0U))), BlkOk X.N X.env.scope scope (ownOf ce.N scope)) ∧ ∀ i ∈ slotsT t, i ∈ ownI ce.N scope := by
  have ok : BlkOk X.N X.env.scope scope (ownOf ce.N scope) := by
    rw [g.eN, g.eS]
    exact blkOk_by hk
  refine ⟨⟨fun s H C cl fp => snd_t (good_blk g ok.kind) ht, fun s H C cl fp => ?_, fun s H C cl fp => (IH _ elt x hx _ E0U _ (good_blk g ok.kind)).1, ok⟩, fun i hi => ?_⟩
  · unfold cIfs at hc
    split at hc
    · cases hc
      exact PTsi pts_nil fun σv H Qv h => by
        obtain ⟨σ, G, Q, rs, ab, h, q⟩ := h
        exact q _ _ ⟨G, TL.refl _, ab, h⟩
    · rename_i cc
      rw [Option.map_eq_some_iff] at hc
      obtain ⟨y, hy, rfl⟩ := hc
      exact pts_one (IH _ cc y hy _ E0U _ (good_blk g ok.kind)).2
    · cases hc
  · rw [List.all_eq_true] at ho
    simpa using ho i hi
theorem snd_E : ∀ n : Nat, SE T Γ ce k n
  | 0 => fun sc e ir h => by cases h
  | n + 1 => fun sc e ir h fo E X g => by
    have IH : SE T Γ ce k n := snd_E n
    have hu : X.A.units + 64 < cLine := g.room.units
    have one : ∀ {e : Expr} {x : Ex}, cE ce n sc e = some x → QE T X e (wpE Γ x E) := fun {e x} hx => (IH sc e x hx fo E X g).1
    have tst : ∀ {e : Expr} {x : Ex}, cE ce n sc e = some x → QT T X e (tstU (wpE Γ x E)) := fun {e x} hx => (IH sc e x hx fo E X g).2
    have plain : ∀ {ir : Ex}, (∀ whole, PySem.isTrue e X.env whole = (do let v ← whole; standAt e.pos; holding [v] (truthy v))) → QE T X e (wpE Γ ir E) → QE T X e (wpE Γ ir E) ∧ QT T X e (tstU (wpE Γ ir E)) := fun he q => ⟨q, qt_val q he⟩
    unfold cE at h
    split at h
    · exact plain (fun _ => rfl) (snd_name g h)
    · exact plain (fun _ => rfl) (snd_const h)
    · simp only [Option.bind_eq_some_iff] at h
      obtain ⟨x, hx, y, hy, h⟩ := h
      cases h
      exact plain (fun _ => rfl) (q_op (opl_bin _) (one hx) (one hy))
    · rw [Option.map_eq_some_iff] at h
      obtain ⟨x, hx, rfl⟩ := h
      exact plain (fun _ => rfl) (q_neg (one hx))
    · rw [Option.map_eq_some_iff] at h
      obtain ⟨x, hx, rfl⟩ := h
      exact ⟨q_not (one hx), qt_not (tst hx)⟩
    · simp only [Option.bind_eq_some_iff] at h
      obtain ⟨x, hx, y, hy, h⟩ := h
      cases h
      exact ⟨q_cmp (opl_cmp hu _) (one hx) (one hy) (marks_of (cE_notSet hy)), qt_cmp (opl_cmp hu _) (one hx) (one hy) (marks_of (cE_notSet hy))⟩
    · simp only [Option.bind_eq_some_iff] at h
      obtain ⟨x, hx, y, hy, z, hz, h⟩ := h
      cases h
      have hm : ∀ (op op' : CmpOp) (b c : Expr), notSet c = true → lastMarks [op, op'] [b, c] = false := fun op op' b c hc => marks_of hc
      exact ⟨q_chn (opl_cmp hu _) (opl_cmp hu _) (one hx) (one hy) (one hz) (hm _ _ _ _ (cE_notSet hz)), qt_chn (opl_cmp hu _) (opl_cmp hu _) (one hx) (one hy) (one hz) (hm _ _ _ _ (cE_notSet hz))⟩
    · obtain ⟨h1, h2⟩ := snd_b IH g h
      exact ⟨h1, h2.pt⟩
    · simp only [Option.bind_eq_some_iff] at h
      obtain ⟨z, hz, x, hx, y, hy, h⟩ := h
      cases h
      exact ⟨q_ite (tst hz) (one hx) (one hy), qt_ite (tst hz) (tst hx) (tst hy)⟩
    · simp only [Option.bind_eq_some_iff] at h
      obtain ⟨x, hx, l, hl, u, hu', h⟩ := h
      cases h
      exact plain (fun _ => rfl) (q_slc (one hx) (snd_o IH g hl) (snd_o IH g hu'))
    · simp only [Option.bind_eq_some_iff] at h
      obtain ⟨x, hx, y, hy, h⟩ := h
      cases h
      exact plain (fun _ => rfl) (q_ix (one hx) (one hy) (plainIx_of (cE_notSet hy)))
    · rw [Option.map_eq_some_iff] at h
      obtain ⟨r, hr, rfl⟩ := h
      exact plain (fun _ => rfl) (q_tup (snd_es IH g hr))
    · rw [Option.map_eq_some_iff] at h
      obtain ⟨r, hr, rfl⟩ := h
      exact plain (fun _ => rfl) (q_lst (snd_es IH g hr))
    · cases h
      exact plain (fun _ => rfl) q_emp
    · rename_i x p es pos
      split at h
      · rename_i hc
        rw [Bool.and_eq_true] at hc
        have hg : Gl X x := by
          show X.env.scope.names.lookup x = _
          rw [g.eS]
          exact beq_iff_eq.mp hc.1
        have hd : (x == ("__debug__" : Str)) = false := by
          have h2 := hc.2
          unfold dbg at h2
          rw [Bool.not_eq_true', Bool.or_eq_false_iff] at h2
          exact h2.1
        split at h
        · rename_i f hf
          rw [Option.map_eq_some_iff] at h
          obtain ⟨r, hr, rfl⟩ := h
          obtain ⟨fa, hm, F⟩ := g.mf.fn x f hf
          cases es with
          | nil =>
            cases hr
            exact plain (fun _ => rfl) (q_call0 F g.room g.tk hg hm hd)
          | cons e1 es =>
            have hr' := hr
            simp only [cEs, Option.bind_eq_some_iff] at hr'
            obtain ⟨x1, hx1, r1, hr1, _⟩ := hr'
            exact plain (fun _ => rfl) (q_call F g.room g.tk hg hm hd (snd_es IH g hr) (cE_star hx1 es X.env) (cEs_plain hr1).1)
        · split at h
          · rename_i hb
            rw [Bool.and_eq_true] at hb
            simp only [Option.bind_eq_some_iff, Option.map_eq_some_iff] at h
            obtain ⟨b, hbi, r, hr, rfl⟩ := h
            have e := biOf_nm hbi
            subst e
            cases es with
            | nil => exact absurd hb.2 (by simp)
            | cons e1 es =>
              have hr' := hr
              simp only [cEs, Option.bind_eq_some_iff] at hr'
              obtain ⟨x1, hx1, r1, hr1, _⟩ := hr'
              exact plain (fun _ => rfl) (q_blt g.calm hg (g.mf.blt _ hb.1) (snd_es IH g hr) (cE_star hx1 es X.env) (cEs_plain hr1).1)
          · cases h
      · cases h
    · rename_i o m apos e1 es pos
      split at h
      · rename_i hc
        rw [Bool.and_eq_true, Bool.and_eq_true, decide_eq_true_eq, decide_eq_true_eq] at hc
        simp only [Option.bind_eq_some_iff, Option.map_eq_some_iff] at h
        obtain ⟨b, hb, x, hx, r, hr, rfl⟩ := h
        have e := bmOf_nm hb
        subst e
        have hr' := hr
        simp only [cEs, Option.bind_eq_some_iff] at hr'
        obtain ⟨x1, hx1, r1, hr1, _⟩ := hr'
        refine plain (fun _ => rfl) (q_btm (one hx) (snd_es IH g hr) (base_of hc.2) ?_ (by rw [hc.1.1]; exact beq_self_eq_true _) (cE_star hx1 es X.env) (cEs_plain hr1).1)
        rw [(cEs_plain hr).2]
        have : (e1 :: es).length + ([] : List Keyword).length + (if ([] : List Keyword).isEmpty then 0 else 1) < 30 := by
          simp only [List.length_cons, List.length_nil, List.isEmpty_nil, if_true]
          have := hc.1.2
          omega
        rw [decide_eq_true this]
        rfl
      · cases h
    · rename_i elt tg iter ifs scope pos
      split at h
      · rename_i hk
        simp only [Option.bind_eq_some_iff] at h
        obtain ⟨x, hx, t, ht, it, hi, c, hc, h⟩ := h
        split at h
        · rename_i ho
          cases h
          obtain ⟨⟨hg, htt, he, ok⟩, hown⟩ := snd_lc IH g (pos := pos) hk hx ht hi hc ho
          exact plain (fun _ => rfl) (PEi (pe_lc g.calm (by rw [g.eN]; exact g.nd) (snd_i IH g hi) ok hg htt he (fun x => fold_of (cI_notSet hi) X.env x)) (lc_below hown))
        · cases h
      · cases h
    · cases h
end
end Y

namespace Y
open PySem PySem.Spec PyProof.Rows L2
section
variable {T : Tb} {Γ : Gm} {ce : CE} {sc : Scope} {fo : Str → Bool} {k : Nat} {E : XS} {X : Cx}
def isLc : Expr → Bool
  | .ListComp _ _ _ _ => true
  | _ => false
theorem sw_of {n : Nat} {e : Expr} {x : Ex} {t : Option Expr} {l : Nat} {env : Env} (h : cE ce n sc e = some x) (hl : isLc e = false) : swapsWith e t l env = pure false := by
  cases n with
  | zero => cases h
  | succ n => cases e <;> first
    | rfl
    | exact Bool.noConfusion hl
    | (simp only [cE] at h; cases h)
def isTp : Expr → Bool
  | .Tuple _ _ _ => true
  | _ => false
theorem sws_of {tg e : Expr} {env : Env} (h : isTp e = false) : swappedStores [tg] e env = pure none := by
  cases e <;> first
    | exact Bool.noConfusion h
    | (cases tg <;> rfl)
theorem sws_name {x : Str} {p : Pos} {e : Expr} {env : Env} : swappedStores [.Name x p] e env = pure none := by
  cases e <;> rfl
theorem noStar (a : Expr) : ((match a with | .Starred .. => true | _ => false) = true) → notSet a = true → False := by
  cases a <;> first
    | exact fun z _ => Bool.noConfusion z
    | exact fun _ z => Bool.noConfusion z
theorem sws_par {x y : Str} {px py pt pt2 : Pos} {kt k2 : Nat} {a b : Expr} {env : Env} {n m : Nat} {p q : Ex} (ha : cE ce n sc a = some p) (hb : cE ce m sc b = some q) (hk : env.scope.kind = .function) (hx : env.scope.names.lookup x = some .local) (hy : env.scope.names.lookup y = some .local)
    (hl : px.line = py.line) (ne : x ≠ y) (hf : (foldedForSure 8 a && foldedForSure 8 b) = false) (hc : (constantsAlone 8 a && constantsAlone 8 b) = false) :
    swappedStores [.Tuple [.Name x px, .Name y py] kt pt] (.Tuple [a, b] k2 pt2) env = pure (some [x, y]) := by
  have kx : env.kindOf x = some .local := hx
  have ky : env.kindOf y = some .local := hy
  have hbk : env.blockKind = .function := by unfold Env.blockKind; rw [hk]; rfl
  have ne' : (y == x) = false := beq_eq_false_iff_ne.mpr (Ne.symm ne)
  unfold swappedStores
  simp only [List.length_cons, List.length_nil, hbk, List.any_cons, List.any_nil, List.head?_cons, Option.map_some, Option.getD_some, Expr.pos, List.filterMap_cons, List.filterMap_nil, kx, ky, hl, List.all_cons, List.all_nil]
  have e1 : (some NameKind.local == some NameKind.local && py.line == py.line) = true := by simp
  have e2 : ([x, y] : List Str).eraseDups.length = 2 := by
    rw [List.eraseDups_cons]
    simp only [List.filter, ne', Bool.not_false, List.length_cons]
    rw [List.eraseDups_cons]
    rfl
  simp only [e1, if_true, e2, Bool.and_true, hf, hc]
  simp
  intro h
  exfalso
  rcases h with h | h
  · exact noStar a h (cE_notSet ha)
  · exact noStar b h (cE_notSet hb)
theorem lc_inv {n : Nat} {elt : Expr} {gs : List Comprehension} {scope : Scope} {lp : Pos} {y : Ex} (h : cE ce n sc (.ListComp elt gs scope lp) = some y) : ∃ m tg iter ifs x t it c, n = m + 1 ∧ gs = [⟨tg, iter, ifs, 0⟩] ∧ blkC ce.N sc scope (ownOf ce.N scope) = true ∧ cE ce m (relS scope sc) elt = some x ∧
    cT ce (relS scope sc) (cellOf scope) m tg = some t ∧ cI ce (cE ce m sc) sc iter = some it ∧ cIfs (cE ce m (relS scope sc)) ifs = some c ∧ (slotsT t).all (fun i => (ownI ce.N scope).contains i) = true ∧ y = .lc x (ownI ce.N scope) t it c := by
  cases n with
  | zero => cases h
  | succ m =>
    simp only [cE] at h
    split at h
    all_goals first
      | (rename_i heq; cases heq; done)
      | skip
    · rename_i elt tg iter ifs scope pos heq
      cases heq
      split at h
      · rename_i hk
        simp only [Option.bind_eq_some_iff] at h
        obtain ⟨x, hx, t, ht, it, hi, c, hc, h⟩ := h
        split at h
        · rename_i ho
          cases h
          exact ⟨m, tg, iter, ifs, x, t, it, c, rfl, rfl, hk, hx, ht, hi, hc, ho, rfl⟩
        · cases h
      · cases h
    · cases h
/-- what is shown of a statement -/
def SS (T : Tb) (Γ : Gm) (ce : CE) (sc : Scope) (fo : Str → Bool) (k n : Nat) : Prop := ∀ (s : Stmt) (ir : Sm), cS ce sc fo n s = some ir → ∀ (E : XS) (X : Cx), GoodC T Γ ce sc fo k E X → QS T X s (wpS Γ E ir)
theorem snd_Ss {n : Nat} (IH : SS T Γ ce sc fo k n) (g : GoodC T Γ ce sc fo k E X) : ∀ {ss : List Stmt} {irs : Sms}, cS.cSs (cS ce sc fo n) ss = some irs → QSs T X ss (wpSs Γ E irs)
  | [], irs, h => by cases h; exact q_nil
  | s :: ss, irs, h => by
    simp only [cS.cSs, Option.bind_eq_some_iff] at h
    obtain ⟨x, hx, r, hr, h⟩ := h
    cases h
    exact q_cons (IH s x hx E X g) (snd_Ss IH g hr)
theorem snd_S : ∀ n : Nat, SS T Γ ce sc fo k n
  | 0 => fun s ir h => by cases h
  | n + 1 => fun s ir h E X g => by
    have IH : SS T Γ ce sc fo k n := snd_S n
    have one : ∀ {e : Expr} {x : Ex}, cE ce n sc e = some x → QE T X e (wpE Γ x E) := fun {e x} hx => (snd_E n sc e x hx fo E X g).1
    have tst : ∀ {e : Expr} {x : Ex}, cE ce n sc e = some x → QT T X e (tstU (wpE Γ x E)) := fun {e x} hx => (snd_E n sc e x hx fo E X g).2
    have nd : X.N.Nodup := by rw [g.eN]; exact g.nd
    have at_ : ∀ {x : Str} {i : Nat}, ixS ce.N x = some i → X.N[i]? = some x := fun {x i} hi => by rw [g.eN]; exact ixS_get hi
    unfold cS at h
    split at h
    · cases h; exact q_pass
    · cases h; exact q_brk
    · cases h; exact q_cnt
    · cases h
    · rename_i e pos hne
      rw [Option.map_eq_some_iff] at h
      obtain ⟨x, hx, rfl⟩ := h
      refine q_expr (one hx) (sw_of hx ?_)
      cases e <;> first
        | rfl
        | exact (hne _ _ _ _ rfl).elim
    · cases h; exact q_retN
    · rw [Option.map_eq_some_iff] at h
      obtain ⟨x, hx, rfl⟩ := h
      exact q_ret (one hx)
    · simp only [Option.bind_eq_some_iff] at h
      obtain ⟨x, hx, p, hp, q, hq, h⟩ := h
      cases h
      exact q_if (tst hx) (snd_Ss IH g hp) (snd_Ss IH g hq)
    · simp only [Option.bind_eq_some_iff] at h
      obtain ⟨x, hx, p, hp, h⟩ := h
      cases h
      exact q_while g.pass (tst hx) (snd_Ss IH g hp)
    · simp only [Option.bind_eq_some_iff] at h
      obtain ⟨t, ht, i, hi, p, hp, h⟩ := h
      cases h
      exact q_for g.pass g.calm (snd_i (snd_E n) g hi) (snd_t g ht) (snd_Ss IH g hp) (fun x => fold_of (cI_notSet hi) X.env x)
    · rename_i x px elt gs scope lp pos
      split at h
      · rename_i hc
        rw [Bool.and_eq_true, Bool.and_eq_true, decide_eq_true_eq, decide_eq_true_eq] at hc
        simp only [Option.bind_eq_some_iff, Option.map_eq_some_iff] at h
        obtain ⟨i, hi, y, hy, rfl⟩ := h
        obtain ⟨m, tg, iter, ifs, x', t, it, c, rfl, rfl, hk, hx, ht, hi', hcc, ho, rfl⟩ := lc_inv hy
        obtain ⟨⟨hg, htt, he, ok⟩, hown⟩ := snd_lc (snd_E m) g (pos := lp) hk hx ht hi' hcc ho
        have hl : X.env.scope.names.lookup x = some .local := by rw [g.eS]; exact hc.1.1
        have hsw : swapsWith (.ListComp elt [⟨tg, iter, ifs, 0⟩] scope lp) (some (.Name x px)) pos.line X.env = pure true := by
          refine sw_true (by rw [g.eS]; exact g.eK) hl (by rw [hc.1.2]; exact beq_self_eq_true _) ?_
          have := hc.2
          rw [Bool.not_eq_true'] at this
          exact this
        exact PSi (ps_setLc g.calm nd (at_ hi) hl hsw (snd_i (snd_E m) g hi') ok hg htt he (fun x => fold_of (cI_notSet hi') X.env x)) fun D σv H h => by
          obtain ⟨σ, G, DU, rs, ab, h, hnx, hrt, hbk, hct⟩ := h
          refine lc_below (wi := wpI Γ it E) (tt := wpC Γ c) (te := wpE Γ x' E0U) hown σv H _ ⟨σ, G, fun y G' => DU.nx (σ.set i (some y)) G', rs, ab, h, fun v H' z => ?_⟩
          obtain ⟨y', G', t', ab', r', q'⟩ := z
          exact hnx _ _ ⟨_, G', t', ab', (rs.mono t').set i r', q'⟩
      · cases h
    · rename_i x px e pos hne
      split at h
      · rename_i hc
        simp only [Option.bind_eq_some_iff, Option.map_eq_some_iff] at h
        obtain ⟨i, hi, y, hy, rfl⟩ := h
        obtain ⟨h1, h2⟩ := st_loc g hc
        refine q_set nd (at_ hi) h1 (one hy) (sw_of hy ?_) h2
        cases e <;> first
          | rfl
          | exact (hne _ _ _ _ rfl).elim
      · cases h
    · rename_i x px y py kt pt a b k2 pt2 pos
      split at h
      · rename_i hc
        simp only [Bool.and_eq_true, decide_eq_true_eq, Bool.not_eq_true', decide_eq_false_iff_not] at hc
        obtain ⟨⟨⟨⟨⟨hx, hy⟩, hl⟩, ne⟩, hf⟩, hcn⟩ := hc
        simp only [Option.bind_eq_some_iff] at h
        obtain ⟨i, hi, j, hj, p, hp, q, hq, h⟩ := h
        split at h
        · cases h
        · rename_i nij
          cases h
          have sb := cE_star hq [] X.env
          exact q_par g.calm nd (at_ hi) (at_ hj) nij (by rw [g.eS]; exact hx) (by rw [g.eS]; exact hy) (one hp) (one hq) (cE_star hp [b] X.env) sb
            (sws_par hp hq (by rw [g.eS]; exact g.eK) (by rw [g.eS]; exact hx) (by rw [g.eS]; exact hy) hl ne hf hcn) rfl
      · cases h
    · rename_i ts kk pp e pos hne1
      split at h
      · cases h
      · cases h
      · rename_i hn1 hn2
        simp only [Option.bind_eq_some_iff, Option.map_eq_some_iff] at h
        obtain ⟨t, ht, y, hy, rfl⟩ := h
        have l1 : isLc e = false := by
          cases e <;> first
            | rfl
            | exact (hn2 _ _ _ _ rfl).elim
        have l2 : isTp e = false := by
          cases e <;> first
            | rfl
            | exact (hn1 _ _ _ rfl).elim
        exact q_asg (one hy) (snd_t g ht) (by unfold swapsWithSole; exact sw_of hy l1) (sws_of l2) (by rw [cT_star ht [] X.env]; rfl)
    · rename_i x px e pos
      split at h
      · rename_i hc
        simp only [Option.bind_eq_some_iff, Option.map_eq_some_iff] at h
        obtain ⟨i, hi, y, hy, rfl⟩ := h
        obtain ⟨h1, h2⟩ := st_loc g hc
        refine PSi (q_aug nd (at_ hi) h1 (one hy) h2) fun D σv H h => ?_
        obtain ⟨σ, G, DU, rs, ab, h, z⟩ := h
        refine ⟨σ, G, DU, rs, ab, ?_, z⟩
        unfold wpS at h
        split at h
        · rename_i u eu
          rw [eu]
          exact h.2
        · exact h.elim
      · cases h
    · cases h
end
/-! ### a def by its form -/
def startU (N : List Str) (us : List U) : SU := us.map some ++ List.replicate (N.length - us.length) none
theorem start_RS {T : Tb} {K : PySem.W.Frag} {H : Hp} {N : List Str} {us : List U} {vs : List V} (r : RUs T K H us vs) : RS T K H (startU N us) (L2.start N vs) := by
  unfold startU L2.start
  refine ⟨by simp [r.length], fun i u e => ?_⟩
  by_cases hi : i < us.length
  · rw [List.getElem?_append_left (by simpa using hi), List.getElem?_map] at e
    cases h : us[i]? with
    | none => rw [h] at e; cases e
    | some w =>
      rw [h] at e
      cases e
      obtain ⟨v, hv, rv⟩ := r.get h
      refine ⟨v, ?_, rv⟩
      rw [List.getElem?_append_left (by rw [List.length_map, ← r.length]; exact hi), List.getElem?_map, hv]
      rfl
  · rw [List.getElem?_append_right (by simpa using hi), List.getElem?_replicate] at e
    split at e <;> cases e
def DF (Q : UK) : EU := { nx := fun _ G' => ∃ G2, Sub G2 G' ∧ Q .non G2, rt := fun u G' => ∃ G2, Sub G2 G' ∧ Q u G2 }
theorem fn_u {T : Tb} {Γ : Gm} {ce : CE} {P : Program} {w : World} {K : PySem.W.Frag} {mg : Str → Option Value} {base : Heap} {k n : Nat} {x qual : Str} {st : Stmt} {f : Addr} {fd : FuncData} {ps : List Str} {ir : Sms} {sp : SpU}
    (F : Fun K x qual st f fd) (S : FnScope ce.N ps (defScope st)) (hc : cS.cSs (cS ce (defScope st) (fun _ => true) n) (defBody st) = some ir) (mf : MF T Γ ce P w K mg base k)
    (h : ∀ us G Q E, us.length = ps.length → sp us G Q E → wpSs Γ (fun c fs _ G' => ∃ G2, Sub G2 G' ∧ E c fs G2) ir (DF Q) (startU ce.N us) G) : FnOk P w K mg base (L2.CX P w) (k + 1) f fd ps (lSp T K ps.length sp) := by
  obtain ⟨oc, od, kV, doc, pm, an, cdv, ct, osl, rfl, lk, hcd⟩ := F.ex
  refine fn_of lk hcd S (fun vs H Q E q => lSp_len vs H Q E q) fun A outer s H vs Qv Ev hr hsp => ?_
  obtain ⟨us, G, Q, E, hl, r, ab, hsp, hq, hx⟩ := hsp
  have tk0 : Takes (cxOf (L2.CX P w) P w K mg base ce.N qual (defScope st) f cdv A outer s H Ev) (fun cls d _ H => Ev cls d H) := takes_of rfl rfl rfl rfl
  have g : GoodC T Γ ce (defScope st) (fun _ => true) k (fun c fs _ G' => ∃ G2, Sub G2 G' ∧ E c fs G2) (cxOf (L2.CX P w) P w K mg base ce.N qual (defScope st) f cdv A outer s H Ev) := {
    eN := rfl
    eS := rfl
    eK := S.kind
    eF := fun _ _ => rfl
    nd := S.nd
    calm := rfl
    room := hr
    pass := passes_of rfl
    tk := fun u s' ⟨a, B, sI, pins, σ, H', cls, d, e, I, nb, up, sky, na, os, ag, w⟩ => by
      refine tk0 u s' ⟨a, B, sI, pins, σ, H', cls, d, e, I, nb, up, sky, na, os, ag, ?_⟩
      obtain ⟨c, fs, σu, G', ec, rs, ab', hd, G2, s2, he⟩ := w
      refine hx cls d H' ⟨c, fs, G2, ec, ⟨fun b xs z => ?_, fun b xs z => ?_⟩, ab'.sub s2, hd, he⟩
      · rcases z with z | z
        · exact .inl (I.base.tups b xs z)
        · exact .inr z
      · rcases z with ⟨o, z⟩ | z
        · exact .inl ⟨o, I.base.frzs b o _ z⟩
        · exact .inr z
    mf := mf }
  refine ⟨lS T K (wpSs Γ (fun c fs _ G' => ∃ G2, Sub G2 G' ∧ E c fs G2) ir), snd_Ss (snd_S n) g hc, ?_⟩
  refine ⟨startU ce.N us, G, DF Q, start_RS r, ab, h us G Q E hl hsp, fun σ' H' z => ?_, fun v H' z => ?_, fun σ' H' z => ?_, fun σ' H' z => ?_⟩
  · obtain ⟨σ1, G1, t1, ab1, rs1, G2, s2, q⟩ := z
    exact hq _ _ ⟨.non, G2, t1, ab1.sub s2, .non, q⟩
  · obtain ⟨y, G1, t1, ab1, r1, G2, s2, q⟩ := z
    exact hq _ _ ⟨y, G2, t1, ab1.sub s2, r1, q⟩
  · obtain ⟨σ1, G1, t1, ab1, rs1, q⟩ := z
    exact q.elim
  · obtain ⟨σ1, G1, t1, ab1, rs1, q⟩ := z
    exact q.elim
end Y

namespace Y
open PySem PySem.Spec PyProof.Rows L2
/-- a text by its codes -/
abbrev S (l : List Nat) : Str := ⟨l.toArray⟩
/-! ### the text's defs and their promises -/
def HasDef (K : PySem.W.Frag) (mg : Str → Option Value) (x : Str) (st : Stmt) : Prop := ∃ f fd, mg x = some (.ref f) ∧ Fun K x x st f fd
def FnA (T : Tb) (P : Program) (w : World) (K : PySem.W.Frag) (mg : Str → Option Value) (base : Heap) (k : Nat) (x : Str) (n : Nat) (sp : SpU) : Prop := ∃ f, mg x = some (.ref f) ∧ FnN T P w K mg base k f n sp
section
variable {T : Tb} {Γ : Gm} {ce : CE} {P : Program} {w : World} {K : PySem.W.Frag} {mg : Str → Option Value} {base : Heap} {k j n : Nat} {x : Str} {st : Stmt} {ps : List Str} {ir : Sms} {sp : SpU}
theorem FnA.mono (h : FnA T P w K mg base j x n sp) (l : j ≤ k) : FnA T P w K mg base k x n sp := by
  obtain ⟨f, hm, ⟨fd, ps, kp, hb, hn, F⟩⟩ := h
  exact ⟨f, hm, ⟨fd, ps, kp, hb, hn, F.mono l⟩⟩
theorem def_ok (d : HasDef K mg x st) (S : FnScope ce.N ps (defScope st)) (hc : cS.cSs (cS ce (defScope st) (fun _ => true) 40) (defBody st) = some ir)
    (hb : ∀ (kV doc pm : Value) (an : Option Addr) (cdv ct : Value) (us : List Value), us.length = ps.length → bindArgs (PySem.W.fnOf x x (defArgs st) (defBody st) (defScope st) .none kV doc pm an cdv ct) ⟨us, []⟩ = pure (ps.zip us))
    (mf : MF T Γ ce P w K mg base k) (h : ∀ us G Q E, us.length = ps.length → sp us G Q E → wpSs Γ (fun c fs _ G' => ∃ G2, Sub G2 G' ∧ E c fs G2) ir (DF Q) (startU ce.N us) G) : FnA T P w K mg base (k + 1) x ps.length sp := by
  obtain ⟨f, fd, hm, F⟩ := d
  exact ⟨f, hm, ⟨fd, ps, F.kp, F.binds hb, rfl, fn_u F S hc mf h⟩⟩
theorem lookup_mem {β : Type} {l : List (Str × β)} {y : Str} {b : β} (h : l.lookup y = some b) : (y, b) ∈ l := PySem.mem_of_lookup h
theorem mf_mk (hf : ∀ p ∈ ce.fns, FnA T P w K mg base k p.1 (Γ.ar p.2) (Γ.fn p.2)) (hc : ∀ p ∈ ce.cons, ∃ v val, mg p.1 = some val ∧ L2.RelV v val ∧ ∀ H, RU T K H p.2 v) (hb : ∀ x ∈ ce.blt, mg x = none) : MF T Γ ce P w K mg base k :=
  ⟨fun x i e => hf (x, i) (lookup_mem e), fun x u e => hc (x, u) (lookup_mem e), fun x e => hb x (by simpa using e)⟩
theorem all_nil {α : Type} {p : α → Prop} : ∀ a ∈ ([] : List α), p a := fun _ h => nomatch h
theorem all_cons {α : Type} {p : α → Prop} {a : α} {l : List α} (h : p a) (t : ∀ b ∈ l, p b) : ∀ b ∈ a :: l, p b := fun b hb => by
  rcases List.mem_cons.mp hb with rfl | hb
  · exact h
  · exact t b hb
/-! ### constants of the module -/
theorem con_int {i : Int} {t : Tok} (h : mg x = some (.int i t)) : ∃ v val, mg x = some val ∧ L2.RelV v val ∧ ∀ H, RU T K H (.int i) v := ⟨.int i, _, h, ⟨t, rfl⟩, fun H => .int i⟩
theorem con_str {z : Str} {t : Tok} (h : mg x = some (.str z t)) : ∃ v val, mg x = some val ∧ L2.RelV v val ∧ ∀ H, RU T K H (.str z) v := ⟨.str z, _, h, ⟨t, rfl⟩, fun H => .str z⟩
theorem con_strs {zs : List Str} {a : Addr} {o : Obj} {its : Array Value} {m : Nat} (h : mg x = some (.ref a)) (l : K.lookup a = some o) (c : o.cls = .type "tuple") (d : o.data = .seq its m) (z : its.size ≤ sizeLine) (r : Vals (zs.map V.str) its.toList) :
    ∃ v val, mg x = some val ∧ L2.RelV v val ∧ ∀ H, RU T K H (.tup (zs.map U.str)) v := ⟨.ref a, _, h, rfl, fun H => .tup (.inr ⟨o, its, m, l, c, d, z, r⟩) (RUs.strs zs)⟩
end
/-! ### the walk, piece by piece -/
theorem Sub.self {G : Gp} {P : Gp → Prop} (h : P G) : ∃ G2, Sub G2 G ∧ P G2 := ⟨G, Sub.refl G, h⟩
end Y

namespace Y
open PySem PySem.Spec PyProof.Rows L2
/-! ### running comprehensions and loops -/
theorem lc_run {g : TGU} {tt : TTU} {te : TEU} {src : Gp → Prop} {D : Addr} {σ : SU} {Q : Gp → Prop} {G0 : Gp} (f : U → Option U) : ∀ (items acc : List U), (∀ l, src (put G0 D (.lst l))) →
    (∀ x ∈ items, ∀ (l : List U) (K : UK) (L : Gp → Prop), (match f x with | some y => K y (put G0 D (.lst l)) | none => L (put G0 D (.lst l))) → g x σ (put G0 D (.lst l)) fun σ2 G2 => tt σ2 G2 fun b G3 => if b = true then te σ2 G3 K else L G3) →
    acc.length + items.length ≤ sizeLine → Q (put G0 D (.lst (acc ++ items.filterMap f))) → lcU g tt te src D σ Q items acc (put G0 D (.lst acc))
  | [], acc, hs, _, _, q => by
    rw [List.filterMap_nil, List.append_nil] at q
    exact ⟨hs _, q⟩
  | x :: xs, acc, hs, hstep, hz, q => by
    refine ⟨hs _, hstep x List.mem_cons_self acc _ _ ?_⟩
    rw [List.length_cons] at hz
    cases e : f x with
    | none =>
      rw [List.filterMap_cons_none e] at q
      exact lc_run f xs acc hs (fun y hy => hstep y (List.mem_cons_of_mem _ hy)) (by omega) q
    | some y =>
      rw [List.filterMap_cons_some e] at q
      refine ⟨put_same, by omega, ?_⟩
      rw [put_put]
      refine lc_run f xs (acc ++ [y]) hs (fun y hy => hstep y (List.mem_cons_of_mem _ hy)) (by rw [List.length_append, List.length_singleton]; omega) ?_
      rw [List.append_assoc]
      exact q
/-- .. from its beginning, without a test -/
theorem lc_map {g : TGU} {te : TEU} {src : Gp → Prop} {D : Addr} {σ : SU} {Q : Gp → Prop} {G0 : Gp} (f : U → U) (items : List U) (hs : ∀ l, src (put G0 D (.lst l)))
    (hstep : ∀ x ∈ items, ∀ (l : List U) (K : UK), K (f x) (put G0 D (.lst l)) → g x σ (put G0 D (.lst l)) fun σ2 G2 => te σ2 G2 K) (hz : items.length ≤ sizeLine) (q : Q (put G0 D (.lst (items.map f)))) :
    lcU g (fun _ G K => K true G) te src D σ Q items [] (put G0 D (.lst [])) := by
  refine lc_run (fun x => some (f x)) items [] hs (fun x hx l K L h => ?_) (by simpa using hz) (by rw [List.filterMap_eq_map']; exact q)
  exact hstep x hx l K h
theorem blsU_map {α : Type} (p : α → Bool) : ∀ xs : List α, blsU (xs.map fun c => U.bl (p c)) = some (xs.map p)
  | [] => rfl
  | x :: xs => by simp only [List.map_cons, blsU, blsU_map p xs]
theorem strsU_map {α : Type} (p : α → Str) : ∀ xs : List α, strsU (xs.map fun c => U.str (p c)) = some (xs.map p)
  | [] => rfl
  | x :: xs => by simp only [List.map_cons, strsU, strsU_map p xs]
theorem intsU_map {α : Type} (p : α → Int) : ∀ xs : List α, intsU (xs.map fun c => U.int (p c)) = some (xs.map p)
  | [] => rfl
  | x :: xs => by simp only [List.map_cons, intsU, intsU_map p xs]
theorem lsG_put {G : Gp} {D : Addr} {xs : List U} : lsG (put G D (.lst xs) D) = some xs := by rw [put_same]; rfl
theorem datL_map {α : Type} {f : U → Option PyData} (p : α → U) (d : α → PyData) : ∀ xs : List α, (∀ x ∈ xs, f (p x) = some (d x)) → datL f (xs.map p) = some (xs.map d)
  | [], _ => rfl
  | x :: xs, h => by simp only [List.map_cons, datL, h x List.mem_cons_self, datL_map p d xs fun y hy => h y (List.mem_cons_of_mem _ hy)]
/-- a loop by what holds before each turn -/
theorem loop_inv {g : TGU} {b : TSU} {src : Gp → Prop} {D : EU} (items : List U) (Pv : Nat → SU → Gp → Prop) {σ : SU} {G : Gp} (h0 : Pv 0 σ G) (hs : ∀ i σ G, i ≤ items.length → Pv i σ G → src G)
    (ht : ∀ i x σ G, items[i]? = some x → Pv i σ G → ∀ nx : SU → Gp → Prop, (∀ σ' G', Pv (i + 1) σ' G' → nx σ' G') → g x σ G fun σ' G' => b { nx := nx, rt := D.rt, bk := D.nx, ct := nx } σ' G') (hd : ∀ σ G, Pv items.length σ G → D.nx σ G) :
    loopU g b src items D σ G := by
  have key : ∀ (n i : Nat) (σ : SU) (G : Gp), items.length - i = n → i ≤ items.length → Pv i σ G → loopU g b src (items.drop i) D σ G := by
    intro n
    induction n with
    | zero =>
      intro i σ G hn hi p
      have e : i = items.length := by omega
      subst e
      rw [List.drop_length]
      exact ⟨hs _ _ _ hi p, hd _ _ p⟩
    | succ n ih =>
      intro i σ G hn hi p
      have hlt : i < items.length := by omega
      rw [List.drop_eq_getElem_cons hlt]
      refine ⟨hs _ _ _ hi p, ht i items[i] σ G (List.getElem?_eq_getElem hlt) p _ fun σ' G' p' => ?_⟩
      exact ih (i + 1) σ' G' (by omega) hlt p'
  exact key _ 0 σ G rfl (Nat.zero_le _) h0
/-! ### lists of texts as data -/
def okS (z : Str) : Prop := ∀ c ∈ z.cps.toList, c < 1114112
theorem okS_bool {z : Str} (h : okS z) : PyData.strOk z = true := by
  unfold PyData.strOk
  rw [← Array.all_toList, List.all_eq_true]
  intro c hc
  exact decide_eq_true (h c hc)
theorem canLay_strs : ∀ zs : List Str, (∀ z ∈ zs, okS z) → PyData.canLayAll0 (zs.map PyData.str) = true
  | [], _ => rfl
  | z :: zs, h => by
    rw [List.map_cons, PyData.canLayAll0, PyData.canLay0, okS_bool (h z List.mem_cons_self), canLay_strs zs fun y hy => h y (List.mem_cons_of_mem _ hy)]
    rfl
theorem depth_strs : ∀ zs : List Str, PyData.depthAll (zs.map PyData.str) = 0
  | [] => rfl
  | z :: zs => by
    rw [List.map_cons, PyData.depthAll, depth_strs zs]
    rfl
theorem shaped_strs (zs : List Str) (h : ∀ z ∈ zs, okS z) : SeqAt.shaped (.list (zs.map PyData.str)) = true := by
  unfold SeqAt.shaped
  rw [PyData.canLay0, canLay_strs zs h, PyData.depth, depth_strs]
  rfl
theorem eqv_strs : ∀ as bs : List Str, PyData.eqv (.list (as.map PyData.str)) (.list (bs.map PyData.str)) = decide (as = bs)
  | [], [] => rfl
  | [], _ :: _ => rfl
  | _ :: _, [] => rfl
  | a :: as, b :: bs => by
    have ih := eqv_strs as bs
    rw [PyData.eqv] at ih ⊢
    rw [List.map_cons, List.map_cons, PyData.eqvAll, ih, PyData.eqv]
    by_cases e : a = b
    · subst e
      by_cases e2 : as = bs
      · subst e2; simp
      · simp [e2]
    · simp [e]
theorem dat_strs {n : Nat} {G : Gp} {a : Addr} {zs : List Str} (h : lsG (G a) = some (zs.map U.str)) : dat (n + 2) G (.ref a) = some (.list (zs.map PyData.str)) := by
  have e : datL (dat (n + 1) G) (zs.map U.str) = some (zs.map PyData.str) := datL_map _ _ zs fun x _ => rfl
  show (match lsG (G a) with
    | some xs => match datL (dat (n + 1) G) xs with
      | some ds => some (PyData.list ds)
      | none => none
    | none => none) = _
  rw [h]
  simp only [e]
/-- two lists of texts compared -/
theorem eq_strs {neg : Bool} {G : Gp} {a b : Addr} {as bs : List Str} {Q : UK} (ha : lsG (G a) = some (as.map U.str)) (hb : lsG (G b) = some (bs.map U.str)) (oa : ∀ z ∈ as, okS z) (ob : ∀ z ∈ bs, okS z) (q : Q (.bl (if neg then !decide (as = bs) else decide (as = bs))) G) : eqU neg (.ref a) (.ref b) G Q := by
  unfold eqU
  rw [if_neg (by simp [scU])]
  unfold eqD
  rw [dat_strs (n := 18) ha, dat_strs (n := 18) hb]
  refine ⟨shaped_strs as oa, shaped_strs bs ob, ?_⟩
  rw [eqv_strs]
  exact q
theorem tyU_int {G : Gp} {x : U} (h : tyU G x = some .int) : ∃ i, x = .int i := by
  cases x with
  | int i => exact ⟨i, rfl⟩
  | ref a =>
    simp only [tyU] at h
    split at h <;> cases h
  | _ => cases h
theorem tyU_str {G : Gp} {x : U} (h : tyU G x = some .str) : ∃ z, x = .str z := by
  cases x with
  | str z => exact ⟨z, rfl⟩
  | ref a =>
    simp only [tyU] at h
    split at h <;> cases h
  | _ => cases h
theorem w_nil {Γ : Gm} {E : XS} {D : EU} {σ : SU} {G : Gp} : wpSs Γ E .nil D σ G = D.nx σ G := rfl
/-- the rest, nothing forgotten -/
theorem w_go {P : Gp → Prop} {G : Gp} (h : P G) : ∃ G2, Sub G2 G ∧ P G2 := ⟨G, Sub.refl G, h⟩
/-- return of a constant -/
theorem w_ret {Γ : Gm} {E : XS} {u : U} {r : Sms} {D : EU} {σ : SU} {G : Gp} (h : D.rt u G) : wpSs Γ E (.cons (.ret (.lit u)) r) D σ G := h
theorem w_cons {Γ : Gm} {E : XS} {s : Sm} {r : Sms} {D : EU} {σ : SU} {G : Gp} (h : wpS Γ E s { nx := fun σ' G' => ∃ G2, Sub G2 G' ∧ wpSs Γ E r D σ' G2, rt := D.rt, bk := D.bk, ct := D.ct } σ G) : wpSs Γ E (.cons s r) D σ G := h
end Y

namespace Y
open PySem PySem.Spec PyProof.Rows L2
def topS (i : Nat) : Stmt := PySem.Challenge.pw_lastingly_k01_words.main.body.getD i (.Pass ⟨0, 0, 0, 0⟩)
abbrev f_is_whole : Nat := 0
abbrev f_is_among : Nat := 1
abbrev f_is_name : Nat := 2
abbrev f_number_of : Nat := 3
abbrev f_words_of : Nat := 4
abbrev f__law_mixed : Nat := 5
abbrev f__law_word : Nat := 6
abbrev f__law_number : Nat := 7
abbrev f__law_one : Nat := 8
abbrev f__law_row : Nat := 9
abbrev f_law : Nat := 10
/-! is_whole -/
abbrev st_is_whole : Stmt := topS 6
def ce_is_whole : CE := { N := ["thing"], cons := [], fns := [], blt := ["isinstance", "bool", "int"] }
def ir_is_whole : Sms := .cons (.ret (.conj (.blt .isi (.cons (.var 0) (.cons (.lit (.ty .int)) .nil))) (.inv (.blt .isi (.cons (.var 0) (.cons (.lit (.ty .bool)) .nil)))))) .nil
theorem sc_is_whole : FnScope ce_is_whole.N ["thing"] (defScope st_is_whole) := ⟨rfl, rfl, rfl, by decide +kernel, rfl, by decide +kernel, by decide +kernel⟩
theorem hc_is_whole : cS.cSs (cS ce_is_whole (defScope st_is_whole) (fun _ => true) 40) (defBody st_is_whole) = some ir_is_whole := by kernel_rfl
/-! is_among -/
abbrev st_is_among : Stmt := topS 7
def ce_is_among : CE := { N := ["thing", "least", "most"], cons := [], fns := [("is_whole", f_is_whole)], blt := [] }
def ir_is_among : Sms := .cons (.ret (.conj (.call f_is_whole (.cons (.var 0) .nil)) (.chn .LtE .LtE (.var 1) (.var 0) (.var 2)))) .nil
theorem sc_is_among : FnScope ce_is_among.N ["thing", "least", "most"] (defScope st_is_among) := ⟨rfl, rfl, rfl, by decide +kernel, rfl, by decide +kernel, by decide +kernel⟩
theorem hc_is_among : cS.cSs (cS ce_is_among (defScope st_is_among) (fun _ => true) 40) (defBody st_is_among) = some ir_is_among := by kernel_rfl
/-! is_name -/
abbrev st_is_name : Stmt := topS 8
def ce_is_name : CE := { N := ["thing", "sign"], cons := [("MOST_LETTERS", (.int 8)), ("RESERVED", (.tup [(.str (S [97, 110, 121])), (.str (S [110, 111, 110, 101])), (.str (S [97, 116])), (.str (S [109, 111, 118, 101])), (.str (S [98, 111, 120])), (.str (S [108, 101, 110, 100])), (.str (S [109, 101, 110, 100]))])), ("LETTERS", (.str (S [97, 98, 99, 100, 101, 102, 103, 104, 105, 106, 107, 108, 109, 110, 111, 112, 113, 114, 115, 116, 117, 118, 119, 120, 121, 122])))], fns := [], blt := ["len", "isinstance", "str", "all"] }
def ir_is_name_1 : Sms := .cons (.ret (.conj (.blt .all (.cons (.lc (.cmp .In (.var 1) (.lit (.str (S [97, 98, 99, 100, 101, 102, 103, 104, 105, 106, 107, 108, 109, 110, 111, 112, 113, 114, 115, 116, 117, 118, 119, 120, 121, 122])))) [1] (.name 1) (.ex (.var 0)) .none) .nil)) (.cmp .NotIn (.var 0) (.lit (.tup [(.str (S [97, 110, 121])), (.str (S [110, 111, 110, 101])), (.str (S [97, 116])), (.str (S [109, 111, 118, 101])), (.str (S [98, 111, 120])), (.str (S [108, 101, 110, 100])), (.str (S [109, 101, 110, 100]))]))))) .nil
def ir_is_name : Sms := .cons (.ifs (.disj (.inv (.blt .isi (.cons (.var 0) (.cons (.lit (.ty .str)) .nil)))) (.inv (.chn .LtE .LtE (.lit (.int 1)) (.blt .len (.cons (.var 0) .nil)) (.lit (.int 8))))) (.cons (.ret (.lit (.bl false))) .nil) .nil) ir_is_name_1
theorem sc_is_name : FnScope ce_is_name.N ["thing"] (defScope st_is_name) := ⟨rfl, rfl, rfl, by decide +kernel, rfl, by decide +kernel, by decide +kernel⟩
theorem hc_is_name : cS.cSs (cS ce_is_name (defScope st_is_name) (fun _ => true) 40) (defBody st_is_name) = some ir_is_name := by kernel_rfl
/-! number_of -/
abbrev st_number_of : Stmt := topS 9
def ce_number_of : CE := { N := ["word", "plain", "sign"], cons := [("FIGURES", (.str (S [48, 49, 50, 51, 52, 53, 54, 55, 56, 57]))), ("MOST_FIGURES", (.int 10))], fns := [], blt := ["isinstance", "str", "all", "len", "int"] }
def ir_number_of_4 : Sms := .cons (.ret (.blt .int (.cons (.var 0) .nil))) .nil
def ir_number_of_3 : Sms := .cons (.ifs (.conj (.cmp .Eq (.ix (.var 1) (.lit (.int 0))) (.lit (.str (S [48])))) (.cmp .NotEq (.var 0) (.lit (.str (S [48]))))) (.cons (.ret (.lit .non)) .nil) .nil) ir_number_of_4
def ir_number_of_2 : Sms := .cons (.ifs (.disj (.inv (.chn .LtE .LtE (.lit (.int 1)) (.blt .len (.cons (.var 1) .nil)) (.lit (.int 10)))) (.inv (.blt .all (.cons (.lc (.cmp .In (.var 2) (.lit (.str (S [48, 49, 50, 51, 52, 53, 54, 55, 56, 57])))) [2] (.name 2) (.ex (.var 1)) .none) .nil)))) (.cons (.ret (.lit .non)) .nil) .nil) ir_number_of_3
def ir_number_of_1 : Sms := .cons (.set (.name 1) (.ite (.btm (.var 0) .startswith (.cons (.lit (.str (S [45]))) .nil)) (.slc (.var 0) (.some (.lit (.int 1))) .none) (.var 0))) ir_number_of_2
def ir_number_of : Sms := .cons (.ifs (.inv (.blt .isi (.cons (.var 0) (.cons (.lit (.ty .str)) .nil)))) (.cons (.ret (.lit .non)) .nil) .nil) ir_number_of_1
theorem sc_number_of : FnScope ce_number_of.N ["word"] (defScope st_number_of) := ⟨rfl, rfl, rfl, by decide +kernel, rfl, by decide +kernel, by decide +kernel⟩
theorem hc_number_of : cS.cSs (cS ce_number_of (defScope st_number_of) (fun _ => true) 40) (defBody st_number_of) = some ir_number_of := by kernel_rfl
/-! words_of -/
abbrev st_words_of : Stmt := topS 10
def ce_words_of : CE := { N := ["row", "found"], cons := [], fns := [], blt := ["isinstance", "str"] }
def ir_words_of_3 : Sms := .cons (.ret (.var 1)) .nil
def ir_words_of_2 : Sms := .cons (.ifs (.cmp .In (.lit (.str (S []))) (.var 1)) (.cons (.ret (.lit .non)) .nil) .nil) ir_words_of_3
def ir_words_of_1 : Sms := .cons (.set (.name 1) (.btm (.var 0) .split (.cons (.lit (.str (S [32]))) .nil))) ir_words_of_2
def ir_words_of : Sms := .cons (.ifs (.inv (.blt .isi (.cons (.var 0) (.cons (.lit (.ty .str)) .nil)))) (.cons (.ret (.lit .non)) .nil) .nil) ir_words_of_1
theorem sc_words_of : FnScope ce_words_of.N ["row"] (defScope st_words_of) := ⟨rfl, rfl, rfl, by decide +kernel, rfl, by decide +kernel, by decide +kernel⟩
theorem hc_words_of : cS.cSs (cS ce_words_of (defScope st_words_of) (fun _ => true) 40) (defBody st_words_of) = some ir_words_of := by kernel_rfl
/-! law mixed -/
abbrev st__law_mixed : Stmt := topS 12
def ce__law_mixed : CE := { N := ["_law_cell", "_law_k"], cons := [], fns := [], blt := [] }
def ir__law_mixed_1 : Sms := .cons (.ret (.bin .Mod (.bin .Mult (.bin .Mod (.bin .Mult (.var 0) (.var 0)) (.lit (.int 1000000007))) (.lit (.int 48271))) (.lit (.int 2147483647)))) .nil
def ir__law_mixed : Sms := .cons (.set (.name 0) (.bin .Add (.bin .Add (.bin .Mod (.var 0) (.lit (.int 1000000007))) (.bin .Mult (.lit (.int 7919)) (.var 1))) (.lit (.int 13)))) ir__law_mixed_1
theorem sc__law_mixed : FnScope ce__law_mixed.N ["_law_cell", "_law_k"] (defScope st__law_mixed) := ⟨rfl, rfl, rfl, by decide +kernel, rfl, by decide +kernel, by decide +kernel⟩
theorem hc__law_mixed : cS.cSs (cS ce__law_mixed (defScope st__law_mixed) (fun _ => true) 40) (defBody st__law_mixed) = some ir__law_mixed := by kernel_rfl
/-! law word -/
abbrev st__law_word : Stmt := topS 13
def ce__law_word : CE := { N := ["_law_number_here", "_law_signs", "_law_k"], cons := [], fns := [("_law_mixed", f__law_mixed)], blt := ["range", "len"] }
def ir__law_word : Sms := .cons (.ret (.btm (.lit (.str (S []))) .join (.cons (.lc (.ix (.var 1) (.bin .Mod (.call f__law_mixed (.cons (.var 0) (.cons (.var 2) .nil))) (.blt .len (.cons (.var 1) .nil)))) [2] (.name 2) (.rng1 (.bin .Mod (.var 0) (.lit (.int 13)))) .none) .nil))) .nil
theorem sc__law_word : FnScope ce__law_word.N ["_law_number_here", "_law_signs"] (defScope st__law_word) := ⟨rfl, rfl, rfl, by decide +kernel, rfl, by decide +kernel, by decide +kernel⟩
theorem hc__law_word : cS.cSs (cS ce__law_word (defScope st__law_word) (fun _ => true) 40) (defBody st__law_word) = some ir__law_word := by kernel_rfl
/-! law number -/
abbrev st__law_number : Stmt := topS 14
def ce__law_number : CE := { N := ["_law_word_here", "_law_figures", "_law_found", "_law_sign"], cons := [], fns := [], blt := ["len"] }
def ir__law_number_6 : Sms := .cons (.set (.name 2) (.bin .Add (.bin .Mult (.var 2) (.lit (.int 10))) (.btm (.lit (.str (S [48, 49, 50, 51, 52, 53, 54, 55, 56, 57]))) .sindex (.cons (.var 3) .nil)))) .nil
def ir__law_number_5 : Sms := .cons (.ret (.ite (.cmp .Eq (.var 1) (.var 0)) (.var 2) (.bin .Sub (.lit (.int 0)) (.var 2)))) .nil
def ir__law_number_4 : Sms := .cons (.fors (.name 3) (.ex (.var 1)) ir__law_number_6) ir__law_number_5
def ir__law_number_3 : Sms := .cons (.set (.name 2) (.lit (.int 0))) ir__law_number_4
def ir__law_number_2 : Sms := .cons (.ifs (.conj (.cmp .Eq (.ix (.var 1) (.lit (.int 0))) (.lit (.str (S [48])))) (.cmp .NotEq (.var 0) (.lit (.str (S [48]))))) (.cons (.ret (.lit .non)) .nil) .nil) ir__law_number_3
def ir__law_number_1 : Sms := .cons (.ifs (.disj (.inv (.chn .LtE .LtE (.lit (.int 1)) (.blt .len (.cons (.var 1) .nil)) (.lit (.int 10)))) (.cmp .NotEq (.lc (.var 3) [3] (.name 3) (.ex (.var 1)) (.some (.cmp .NotIn (.var 3) (.lit (.str (S [48, 49, 50, 51, 52, 53, 54, 55, 56, 57])))))) (.lst .nil))) (.cons (.ret (.lit .non)) .nil) .nil) ir__law_number_2
def ir__law_number : Sms := .cons (.set (.name 1) (.ite (.cmp .Eq (.slc (.var 0) .none (.some (.lit (.int 1)))) (.lit (.str (S [45])))) (.slc (.var 0) (.some (.lit (.int 1))) .none) (.var 0))) ir__law_number_1
theorem sc__law_number : FnScope ce__law_number.N ["_law_word_here"] (defScope st__law_number) := ⟨rfl, rfl, rfl, by decide +kernel, rfl, by decide +kernel, by decide +kernel⟩
theorem hc__law_number : cS.cSs (cS ce__law_number (defScope st__law_number) (fun _ => true) 40) (defBody st__law_number) = some ir__law_number := by kernel_rfl
/-! law one -/
abbrev st__law_one : Stmt := topS 15
def ce__law_one : CE := { N := ["_law_word_here", "_law_letters", "_law_due", "_law_found", "_law_small", "_law_sign"], cons := [], fns := [("_law_number", f__law_number), ("number_of", f_number_of), ("is_name", f_is_name)], blt := ["isinstance", "bool", "len"] }
def ir__law_one_5 : Sms := .cons (.ret (.cmp .Eq (.call f_is_name (.cons (.var 0) .nil)) (.conj (.var 4) (.cmp .NotIn (.var 0) (.lst (.cons (.lit (.str (S [97, 110, 121]))) (.cons (.lit (.str (S [110, 111, 110, 101]))) (.cons (.lit (.str (S [97, 116]))) (.cons (.lit (.str (S [109, 111, 118, 101]))) (.cons (.lit (.str (S [98, 111, 120]))) (.cons (.lit (.str (S [108, 101, 110, 100]))) (.cons (.lit (.str (S [109, 101, 110, 100]))) .nil)))))))))))) .nil
def ir__law_one_4 : Sms := .cons (.set (.name 4) (.conj (.cmp .Eq (.blt .len (.cons (.var 1) .nil)) (.blt .len (.cons (.var 0) .nil))) (.chn .LtE .LtE (.lit (.int 1)) (.blt .len (.cons (.var 0) .nil)) (.lit (.int 8))))) ir__law_one_5
def ir__law_one_3 : Sms := .cons (.ifs (.disj (.blt .isi (.cons (.var 3) (.cons (.lit (.ty .bool)) .nil))) (.disj (.cmp .NotEq (.var 3) (.var 2)) (.cmp .NotEq (.cmp .Is (.var 3) (.lit .non)) (.cmp .Is (.var 2) (.lit .non))))) (.cons (.ret (.lit (.bl false))) .nil) .nil) ir__law_one_4
def ir__law_one_2 : Sms := .cons (.set (.name 3) (.call f_number_of (.cons (.var 0) .nil))) ir__law_one_3
def ir__law_one_1 : Sms := .cons (.set (.name 2) (.call f__law_number (.cons (.var 0) .nil))) ir__law_one_2
def ir__law_one : Sms := .cons (.set (.name 1) (.lc (.var 5) [5] (.name 5) (.ex (.var 0)) (.some (.cmp .In (.var 5) (.lit (.str (S [97, 98, 99, 100, 101, 102, 103, 104, 105, 106, 107, 108, 109, 110, 111, 112, 113, 114, 115, 116, 117, 118, 119, 120, 121, 122]))))))) ir__law_one_1
theorem sc__law_one : FnScope ce__law_one.N ["_law_word_here"] (defScope st__law_one) := ⟨rfl, rfl, rfl, by decide +kernel, rfl, by decide +kernel, by decide +kernel⟩
theorem hc__law_one : cS.cSs (cS ce__law_one (defScope st__law_one) (fun _ => true) 40) (defBody st__law_one) = some ir__law_one := by kernel_rfl
/-! law row -/
abbrev st__law_row : Stmt := topS 16
def ce__law_row : CE := { N := ["_law_words", "_law_number_here", "_law_row_here", "_law_turn", "_law_found", "_law_at", "_law_parts"], cons := [], fns := [("words_of", f_words_of)], blt := ["range", "isinstance", "list", "len"] }
def ir__law_row_7 : Sms := .cons (.expr (.btm (.var 4) .append (.cons (.lit (.str (S [120]))) .nil))) .nil
def ir__law_row_6 : Sms := .cons (.ifs (.disj (.inv (.blt .isi (.cons (.var 4) (.cons (.lit (.ty .lst)) .nil)))) (.cmp .NotEq (.var 4) (.var 0))) (.cons (.ret (.lit (.bl false))) .nil) .nil) ir__law_row_7
def ir__law_row_5 : Sms := .cons (.set (.name 4) (.call f_words_of (.cons (.var 2) .nil))) ir__law_row_6
def ir__law_row_4 : Sms := .cons (.ret (.cmp .Eq (.call f_words_of (.cons (.bin .Add (.bin .Add (.slc (.var 2) .none (.some (.var 5))) (.lit (.str (S [32])))) (.slc (.var 2) (.some (.var 5)) .none)) .nil)) (.ite (.cmp .In (.lit (.str (S []))) (.var 6)) (.lit .non) (.var 6)))) .nil
def ir__law_row_3 : Sms := .cons (.set (.name 6) (.btm (.bin .Add (.bin .Add (.slc (.var 2) .none (.some (.var 5))) (.lit (.str (S [32])))) (.slc (.var 2) (.some (.var 5)) .none)) .split (.cons (.lit (.str (S [32]))) .nil))) ir__law_row_4
def ir__law_row_2 : Sms := .cons (.set (.name 5) (.bin .Mod (.var 1) (.bin .Add (.blt .len (.cons (.var 2) .nil)) (.lit (.int 1))))) ir__law_row_3
def ir__law_row_1 : Sms := .cons (.fors (.name 3) (.rng1 (.lit (.int 2))) ir__law_row_5) ir__law_row_2
def ir__law_row : Sms := .cons (.set (.name 2) (.btm (.lit (.str (S [32]))) .join (.cons (.var 0) .nil))) ir__law_row_1
theorem sc__law_row : FnScope ce__law_row.N ["_law_words", "_law_number_here"] (defScope st__law_row) := ⟨rfl, rfl, rfl, by decide +kernel, rfl, by decide +kernel, by decide +kernel⟩
theorem hc__law_row : cS.cSs (cS ce__law_row (defScope st__law_row) (fun _ => true) 40) (defBody st__law_row) = some ir__law_row := by kernel_rfl
/-! law -/
abbrev st_law : Stmt := topS 17
def ce_law : CE := { N := ["_law_script", "_law_words", "_law_cell", "_law_number_here", "_law_signs", "_law_word_here", "_law_own", "_law_odd", "_law_due", "_law_big"], cons := [], fns := [("_law_mixed", f__law_mixed), ("_law_word", f__law_word), ("_law_one", f__law_one), ("is_name", f_is_name), ("words_of", f_words_of), ("number_of", f_number_of), ("is_among", f_is_among), ("is_whole", f_is_whole), ("_law_row", f__law_row)], blt := ["sum", "str"] }
def ir_law_15 : Sms := .cons (.ifs (.disj (.inv (.call f__law_one (.cons (.var 5) .nil))) (.inv (.call f__law_one (.cons (.bin .Add (.lit (.str (S [45]))) (.var 5)) .nil)))) (.cons (.ret (.lit (.bl false))) .nil) .nil) .nil
def ir_law_14 : Sms := .cons (.set (.name 5) (.call f__law_word (.cons (.var 3) (.cons (.var 4) .nil)))) ir_law_15
def ir_law_16 : Sms := .cons (.ifs (.inv (.call f__law_one (.cons (.var 5) .nil))) (.cons (.ret (.lit (.bl false))) .nil) .nil) .nil
def ir_law_13 : Sms := .cons (.ifs (.disj (.cmp .IsNot (.call f_is_among (.cons (.var 9) (.cons (.bin .Sub (.var 9) (.lit (.int 1))) (.cons (.var 9) .nil)))) (.lit (.bl true))) (.cmp .IsNot (.call f_is_among (.cons (.var 9) (.cons (.bin .Add (.var 9) (.lit (.int 1))) (.cons (.bin .Add (.var 9) (.lit (.int 2))) .nil)))) (.lit (.bl false)))) (.cons (.ret (.lit (.bl false))) .nil) .nil) .nil
def ir_law_12 : Sms := .cons (.set (.name 9) (.bin .Mod (.var 2) (.bin .Pow (.lit (.int 10)) (.lit (.int 60))))) ir_law_13
def ir_law_11 : Sms := .cons (.ifs (.disj (.cmp .NotEq (.call f_is_whole (.cons (.var 7) .nil)) (.var 8)) (.disj (.cmp .NotEq (.call f_is_among (.cons (.var 7) (.cons (.neg (.lit (.int 2))) (.cons (.lit (.int 7)) .nil)))) (.var 8)) (.cmp .IsNot (.call f_is_among (.cons (.var 7) (.cons (.neg (.lit (.int 1))) (.cons (.lit (.int 6)) .nil)))) (.lit (.bl false))))) (.cons (.ret (.lit (.bl false))) .nil) .nil) ir_law_12
def ir_law_10 : Sms := .cons (.set (.name 8) (.cmp .In (.bin .Mod (.var 2) (.lit (.int 8))) (.tup (.cons (.lit (.int 2)) (.cons (.lit (.int 7)) .nil))))) ir_law_11
def ir_law_9 : Sms := .cons (.ifs (.disj (.cmp .IsNot (.call f_number_of (.cons (.var 7) .nil)) (.lit .non)) (.disj (.cmp .IsNot (.call f_words_of (.cons (.var 7) .nil)) (.lit .non)) (.cmp .IsNot (.call f_is_name (.cons (.var 7) .nil)) (.lit (.bl false))))) (.cons (.ret (.lit (.bl false))) .nil) .nil) ir_law_10
def ir_law_8 : Sms := .cons (.set (.name 7) (.ix (.lst (.cons (.lit .non) (.cons (.lit (.bl true)) (.cons (.lit (.int 7)) (.cons (.lst .nil) (.cons (.lst (.cons (.lit (.str (S [49]))) .nil)) (.cons (.emp) (.cons (.tup (.cons (.lit (.str (S [97]))) .nil)) (.cons (.neg (.lit (.int 2))) .nil))))))))) (.bin .Mod (.var 2) (.lit (.int 8))))) ir_law_9
def ir_law_7 : Sms := .cons (.set (.name 1) (.bin .Add (.var 1) (.lst (.cons (.bin .Add (.lit (.str (S [97]))) (.call f__law_word (.cons (.var 3) (.cons (.lit (.str (S [98, 57, 43, 10]))) .nil)))) (.cons (.blt .str (.cons (.bin .Mod (.var 3) (.lit (.int 99))) .nil)) .nil))))) ir_law_8
def ir_law_6 : Sms := .cons (.fors (.name 5) (.ex (.lst (.cons (.blt .str (.cons (.var 3) .nil)) (.cons (.bin .Add (.lit (.str (S [45]))) (.blt .str (.cons (.bin .Mod (.var 3) (.lit (.int 50))) .nil))) (.cons (.var 6) (.cons (.bin .Add (.var 6) (.lit (.str (S [115])))) (.cons (.bin .Add (.lit (.str (S [48]))) (.blt .str (.cons (.bin .Mod (.var 3) (.lit (.int 100))) .nil))) (.cons (.blt .str (.cons (.bin .Mult (.var 3) (.lit (.int 9))) .nil)) .nil)))))))) ir_law_16) ir_law_7
def ir_law_5 : Sms := .cons (.set (.name 6) (.ix (.lst (.cons (.lit (.str (S [97, 110, 121]))) (.cons (.lit (.str (S [110, 111, 110, 101]))) (.cons (.lit (.str (S [97, 116]))) (.cons (.lit (.str (S [109, 111, 118, 101]))) (.cons (.lit (.str (S [98, 111, 120]))) (.cons (.lit (.str (S [108, 101, 110, 100]))) (.cons (.lit (.str (S [109, 101, 110, 100]))) .nil)))))))) (.bin .Mod (.var 3) (.lit (.int 7))))) ir_law_6
def ir_law_4 : Sms := .cons (.fors (.name 4) (.ex (.tup (.cons (.lit (.str (S [48, 49, 50, 51, 52, 53, 54, 55, 56, 57]))) (.cons (.lit (.str (S [97, 98, 99, 100, 101, 102, 103, 104, 105, 106, 107, 108, 109, 110, 111, 112, 113, 114, 115, 116, 117, 118, 119, 120, 121, 122]))) (.cons (.lit (.str (S [48, 49, 97]))) (.cons (.lit (.str (S [48, 32, 57, 43, 45, 46, 39]))) (.cons (.lit (.str (S [65, 98, 123, 125, 96, 122, 10]))) .nil))))))) ir_law_14) ir_law_5
def ir_law_3 : Sms := .cons (.set (.name 3) (.call f__law_mixed (.cons (.var 2) (.cons (.lit (.int 1)) .nil)))) ir_law_4
def ir_law_2 : Sms := .cons (.ret (.conj (.cmp .Is (.call f_words_of (.cons (.lit (.str (S []))) .nil)) (.lit .non)) (.call f__law_row (.cons (.var 1) (.cons (.call f__law_mixed (.cons (.blt .sum (.cons (.var 0) .nil)) (.cons (.lit (.int 2)) .nil))) .nil))))) .nil
def ir_law_1 : Sms := .cons (.fors (.name 2) (.ex (.bin .Add (.slc (.var 0) .none (.some (.lit (.int 63)))) (.lst (.cons (.blt .sum (.cons (.var 0) .nil)) .nil)))) ir_law_3) ir_law_2
def ir_law : Sms := .cons (.set (.name 1) (.lst .nil)) ir_law_1
theorem sc_law : FnScope ce_law.N ["_law_script"] (defScope st_law) := ⟨rfl, rfl, rfl, by decide +kernel, rfl, by decide +kernel, by decide +kernel⟩
theorem hc_law : cS.cSs (cS ce_law (defScope st_law) (fun _ => true) 40) (defBody st_law) = some ir_law := by kernel_rfl
end Y

namespace Y
open PySem PySem.Spec PyProof.Rows L2
local macro_rules | `(tactic| walk_at "yr") => `(tactic| simp only [wpSs, wpS, wpE, wpEs, wpO, wpC, wpI, biU, binU, cmpU, intU, isB, partU, gU, gsU, startU, DF, List.map_cons, List.map_nil, List.length_cons, List.length_nil, List.cons_append, List.nil_append, List.replicate, List.getElem?_cons_zero, List.getElem?_cons_succ, List.set_cons_zero, List.set_cons_succ, true_and, and_true, if_true, Bool.false_eq_true, if_false, Nat.reduceAdd, Nat.reduceSub])
local macro_rules | `(tactic| walk_at "y1") => `(tactic| simp only [wpS, wpE, wpEs, wpO, wpC, wpI, biU, binU, cmpU, intU, isB, partU, gU, gsU, startU, DF, List.map_cons, List.map_nil, List.length_cons, List.length_nil, List.cons_append, List.nil_append, List.replicate, List.getElem?_cons_zero, List.getElem?_cons_succ, List.set_cons_zero, List.set_cons_succ, true_and, and_true, if_true, Bool.false_eq_true, if_false, Nat.reduceAdd, Nat.reduceSub, w_nil])
/-! ### the mathematics -/
def lettersC : List Nat := [97, 98, 99, 100, 101, 102, 103, 104, 105, 106, 107, 108, 109, 110, 111, 112, 113, 114, 115, 116, 117, 118, 119, 120, 121, 122]
def figuresC : List Nat := [48, 49, 50, 51, 52, 53, 54, 55, 56, 57]
def ownC : List (List Nat) := [[97, 110, 121], [110, 111, 110, 101], [97, 116], [109, 111, 118, 101], [98, 111, 120], [108, 101, 110, 100], [109, 101, 110, 100]]
def nameC (cs : List Nat) : Bool := decide (1 ≤ cs.length) && decide (cs.length ≤ 8) && cs.all (fun c => decide (c ∈ lettersC)) && !decide (cs ∈ ownC)
def figs (r : List Nat) : Bool := decide (1 ≤ r.length) && decide (r.length ≤ 10) && r.all fun c => decide (c ∈ figuresC)
def numC (cs : List Nat) : Option Int :=
  if cs.head? = some 45 then (if figs cs.tail = true ∧ cs.tail.head? ≠ some 48 then some (-(NumText.digitsVal cs.tail : Int)) else none)
  else if figs cs = true ∧ (cs.head? ≠ some 48 ∨ cs = [48]) then some (NumText.digitsVal cs : Int) else none
def optI : Option Int → U
  | some i => .int i
  | none => .non
/-! ### the promises -/
def sp_is_whole : SpU := fun us G Q _ => ∃ x t, us = [x] ∧ tyU G x = some t ∧ Q (.bl (decide (t = .int))) G
def amU (x : U) (l m : Int) : Bool := match x with
  | .int i => decide (l ≤ i) && decide (i ≤ m)
  | _ => false
def sp_is_among : SpU := fun us G Q _ => ∃ x t l m, us = [x, .int l, .int m] ∧ tyU G x = some t ∧ Q (.bl (amU x l m)) G
def nmU (x : U) : Bool := match x with
  | .str z => nameC z.cps.toList
  | _ => false
def sp_is_name : SpU := fun us G Q _ => ∃ x t, us = [x] ∧ tyU G x = some t ∧ (∀ z, x = .str z → z.length ≤ 600) ∧ Q (.bl (nmU x)) G
def nuU (x : U) : U := match x with
  | .str z => optI (numC z.cps.toList)
  | _ => .non
def sp_number_of : SpU := fun us G Q _ => ∃ x t, us = [x] ∧ tyU G x = some t ∧ (∀ z, x = .str z → z.length ≤ 600) ∧ Q (nuU x) G
def noSp : SpU := fun _ _ _ _ => False
/-- the walk of is_whole -/
theorem w_is_whole {Γ : Gm} {E : XS} {us : List U} {G : Gp} {Q : UK} {X : XU} (h : sp_is_whole us G Q X) : wpSs Γ E ir_is_whole (DF Q) (startU ce_is_whole.N us) G := by
  obtain ⟨x, t, rfl, ht, q⟩ := h
  unfold ir_is_whole ce_is_whole
  walk_at "yr"
  simp only [ht]
  cases t <;> exact ⟨G, Sub.refl G, q⟩
theorem w_is_among {Γ : Gm} {E : XS} {us : List U} {G : Gp} {Q : UK} {X : XU} (h1 : Γ.fn f_is_whole = sp_is_whole) (h1a : Γ.ar f_is_whole = 1) (h : sp_is_among us G Q X) : wpSs Γ E ir_is_among (DF Q) (startU ce_is_among.N us) G := by
  obtain ⟨x, t, l, m, rfl, ht, q⟩ := h
  unfold ir_is_among ce_is_among
  walk_at "yr"
  rw [h1, h1a]
  refine ⟨rfl, x, t, rfl, ht, ?_⟩
  by_cases e : t = .int
  · subst e
    obtain ⟨i, rfl⟩ := tyU_int ht
    simp only [decide_true, if_true]
    by_cases hl : l ≤ i
    · simp only [hl, decide_true, if_true]
      refine ⟨G, Sub.refl G, ?_⟩
      unfold amU at q
      simp only [hl, decide_true, Bool.true_and] at q
      exact q
    · simp only [hl, decide_false, Bool.false_eq_true, if_false]
      refine ⟨G, Sub.refl G, ?_⟩
      unfold amU at q
      simp only [hl, decide_false, Bool.false_and] at q
      exact q
  · simp only [decide_eq_false e, Bool.false_eq_true, if_false]
    refine ⟨G, Sub.refl G, ?_⟩
    have : amU x l m = false := by
      unfold amU
      split
      · exact absurd (Option.some.inj ht).symm e
      · rfl
    rw [this] at q
    exact q
theorem lenS (z : Str) : z.length = z.cps.toList.length := by simp [Str.length]
theorem mem_S {c : Nat} {l : List Nat} : (c ∈ (S l).cps.toList) ↔ c ∈ l := Iff.rfl
theorem S_inj {a b : List Nat} (h : S a = S b) : a = b := by
  have := congrArg (fun z : Str => z.cps.toList) h
  exact this
theorem str_eta (z : Str) : S z.cps.toList = z := by
  obtain ⟨a⟩ := z
  rfl
/-- a text's signs, each a text -/
def signsU (cs : List Nat) : List U := cs.map fun c => .str ⟨#[c]⟩
theorem own_in (z : Str) : inF (.str z) [.str (S [97, 110, 121]), .str (S [110, 111, 110, 101]), .str (S [97, 116]), .str (S [109, 111, 118, 101]), .str (S [98, 111, 120]), .str (S [108, 101, 110, 100]), .str (S [109, 101, 110, 100])] = decide (z.cps.toList ∈ ownC) := by
  have key : ∀ l : List (List Nat), inF (.str z) (l.map fun a => U.str (S a)) = decide (z.cps.toList ∈ l) := by
    intro l
    induction l with
    | nil => rfl
    | cons a l ih =>
      unfold inF at ih ⊢
      rw [List.map_cons, List.any_cons, ih]
      simp only [eqF, List.mem_cons]
      by_cases e : z.cps.toList = a
      · have e' : S a = z := by have h := str_eta z; rw [e] at h; exact h
        simp [e, e']
      · have e' : ¬ S a = z := fun h => e (congrArg (fun y : Str => y.cps.toList) h).symm
        simp [e, e']
  exact key ownC
theorem w_is_name {Γ : Gm} {E : XS} {us : List U} {G : Gp} {Q : UK} {X : XU} (h : sp_is_name us G Q X) : wpSs Γ E ir_is_name (DF Q) (startU ce_is_name.N us) G := by
  obtain ⟨x, t, rfl, ht, hz, q⟩ := h
  unfold ir_is_name ir_is_name_1 ce_is_name
  walk_at "yr"
  simp only [ht]
  by_cases e : t = .str
  · subst e
    obtain ⟨z, rfl⟩ := tyU_str ht
    have hl := hz z rfl
    have hs : z.length ≤ sizeLine := Nat.le_trans hl (by decide)
    simp only [BT.sub, decide_true, Bool.not_true, Bool.false_eq_true, if_false, lenU, hs, true_and]
    have ez : z.length = z.cps.toList.length := lenS z
    unfold nmU nameC at q
    simp only at q
    by_cases h1 : 1 ≤ z.length
    · have h1' : (1 : Int) ≤ (z.length : Int) := by omega
      simp only [h1', decide_true, if_true]
      by_cases h8 : z.length ≤ 8
      · have h8' : (z.length : Int) ≤ 8 := by omega
        simp only [h8', decide_true, Bool.not_true, Bool.false_eq_true, if_false]
        refine ⟨G, Sub.refl G, ?_⟩
        simp only [seqU]
        intro D hD
        refine lc_map (fun u => match u with | .str a => .bl (decide (a.cps.toList.headD 0 ∈ lettersC)) | _ => .non) _ (fun _ => trivial) (fun x hx l K hK => ?_) ?_ ?_
        · obtain ⟨c, _, rfl⟩ := List.mem_map.mp hx
          exact hK
        · rw [List.length_map, ← ez]; exact hs
        · rw [List.map_map]
          simp only [lsU, lsG_put]
          rw [show (List.map ((fun u => match u with | .str a => U.bl (decide (a.cps.toList.headD 0 ∈ lettersC)) | _ => .non) ∘ fun c => U.str ⟨#[c]⟩) z.cps.toList) = z.cps.toList.map (fun c => U.bl (decide (c ∈ lettersC))) from rfl, blsU_map]
          simp only [inU, rdL, fltU, List.all_cons, List.all_nil, own_in, true_and, Bool.and_true, Bool.true_and]
          rw [List.all_map]
          rw [← ez] at q
          simp only [h1, h8, decide_true, Bool.true_and] at q
          have er : (z.cps.toList.all (id ∘ fun c => decide (c ∈ lettersC))) = z.cps.toList.all (fun c => decide (c ∈ lettersC)) := rfl
          rw [er]
          by_cases hall : z.cps.toList.all (fun c => decide (c ∈ lettersC)) = true
          · rw [hall] at q ⊢
            rw [if_pos rfl]
            exact ⟨G, Sub.put hD, q⟩
          · rw [Bool.not_eq_true] at hall
            rw [hall] at q ⊢
            rw [if_neg Bool.false_ne_true]
            exact ⟨G, Sub.put hD, q⟩
      · have h8' : ¬ (z.length : Int) ≤ 8 := by omega
        simp only [h8', decide_false, Bool.not_false, if_true]
        rw [← ez] at q
        simp only [h8, decide_false, Bool.and_false, Bool.false_and] at q
        exact ⟨G, Sub.refl G, q⟩
    · have h1' : ¬ (1 : Int) ≤ (z.length : Int) := by omega
      simp only [h1', decide_false, Bool.false_eq_true, if_false, Bool.not_false, if_true]
      rw [← ez] at q
      simp only [h1, decide_false, Bool.false_and] at q
      exact ⟨G, Sub.refl G, q⟩
  · have ef : BT.sub t .str = false := by cases t <;> first | rfl | exact absurd rfl e
    have nx : nmU x = false := by
      unfold nmU
      split
      · exact absurd (Option.some.inj ht).symm e
      · rfl
    simp only [ef, Bool.not_false, if_true]
    rw [nx] at q
    exact ⟨G, Sub.refl G, q⟩
theorem starts45 (z : Str) : Txt.startswith z (S [45]) = decide (z.cps.toList.head? = some 45) := by
  have h := PySem.StrLaws.subAt_one z 45 0
  have e0 : z.cps.toList[0]? = z.cps.toList.head? := by cases z.cps.toList <;> rfl
  unfold Txt.startswith
  rw [e0] at h
  by_cases e : z.cps.toList.head? = some 45
  · obtain ⟨h1, h2⟩ := h.mpr e
    rw [show Builtin.Str.subAt z (S [45]) 0 = true from h2, decide_eq_true e, decide_eq_true (show 0 + (S [45]).length ≤ z.length from h1)]
    rfl
  · rw [decide_eq_false e, Bool.eq_false_iff]
    intro q
    rw [Bool.and_eq_true, decide_eq_true_eq] at q
    exact e (h.mp q)
theorem cut1 (z : Str) : cutS z (some 1) none = S (z.cps.toList.drop 1) := by
  unfold cutS
  rw [show HT.sIx z.length 0 (some 1) = min 1 z.length from HT.sIx_nat z.length 0 1, HT.sIx_none, lenS]
  congr 2
  generalize z.cps.toList = l
  cases l with
  | nil => rfl
  | cons a l =>
    have e : min 1 (a :: l).length = 1 := by rw [List.length_cons]; omega
    rw [e]
    show List.take ((a :: l).length - 1) l = l
    rw [List.length_cons, Nat.add_sub_cancel, List.take_length]
theorem lenC (l : List Nat) : (S l).length = l.length := by rw [lenS]
theorem allFig (l : List Nat) : (l.all fun c => decide (c ∈ figuresC)) = true ↔ NumText.AllDigits l := by
  rw [List.all_eq_true]
  constructor
  · intro h c hc
    have := of_decide_eq_true (h c hc)
    unfold figuresC at this
    simp only [List.mem_cons, List.not_mem_nil, or_false] at this
    omega
  · intro h c hc
    have := h c hc
    apply decide_eq_true
    unfold figuresC
    simp only [List.mem_cons, List.not_mem_nil, or_false]
    omega
/-- what stands behind a - ahead -/
def plainC (cs : List Nat) : List Nat := if cs.head? = some 45 then cs.tail else cs
theorem numC_eq (cs : List Nat) : numC cs = if figs (plainC cs) = true ∧ ¬ ((plainC cs).head? = some 48 ∧ cs ≠ [48]) then some (if cs.head? = some 45 then -(NumText.digitsVal (plainC cs) : Int) else (NumText.digitsVal (plainC cs) : Int)) else none := by
  unfold numC plainC
  by_cases h : cs.head? = some 45
  · have hne : cs ≠ [48] := fun e => by subst e; cases h
    simp only [h, if_true, hne, ne_eq, not_false_eq_true, and_true]
  · simp only [h, if_false]
    by_cases h0 : cs = [48]
    · subst h0; rfl
    · simp only [h0, or_false, ne_eq, not_false_eq_true, and_true]
theorem int_of {z : Str} (hl : z.length ≤ 600) (h : figs (plainC z.cps.toList) = true) : PySem.intText? z = some (if z.cps.toList.head? = some 45 then -(NumText.digitsVal (plainC z.cps.toList) : Int) else (NumText.digitsVal (plainC z.cps.toList) : Int)) := by
  unfold figs at h
  rw [Bool.and_eq_true, Bool.and_eq_true, decide_eq_true_eq, decide_eq_true_eq, allFig] at h
  obtain ⟨⟨h1, h2⟩, h3⟩ := h
  have hne : plainC z.cps.toList ≠ [] := fun e => by rw [e] at h1; exact absurd h1 (by decide)
  by_cases e : z.cps.toList.head? = some 45
  · rw [if_pos e]
    have ep : plainC z.cps.toList = z.cps.toList.tail := by unfold plainC; rw [if_pos e]
    rw [ep] at h3 hne ⊢
    refine PySem.intText_neg ?_ h3 hne (by omega)
    cases hz : z.cps.toList with
    | nil => rw [hz] at e; cases e
    | cons a l => rw [hz] at e; cases e; rfl
  · rw [if_neg e]
    have ep : plainC z.cps.toList = z.cps.toList := by unfold plainC; rw [if_neg e]
    rw [ep] at h3 hne ⊢
    exact PySem.intText_digits h3 hne (by omega)
theorem plain_len (cs : List Nat) : (plainC cs).length ≤ cs.length := by
  unfold plainC
  split
  · rw [List.length_tail]; omega
  · exact Nat.le_refl _
theorem t_number_of_3 {Γ : Gm} {E : XS} {G : Gp} {Q : UK} {z : Str} {σ2 : Option U} (hl : z.length ≤ 600) (hf : figs (plainC z.cps.toList) = true) (q : Q (optI (numC z.cps.toList)) G) :
    wpSs Γ E ir_number_of_3 (DF Q) [some (.str z), some (.str (S (plainC z.cps.toList))), σ2] G := by
  have hi := int_of hl hf
  rw [numC_eq] at q
  have h1 : 1 ≤ (plainC z.cps.toList).length := by
    unfold figs at hf
    rw [Bool.and_eq_true, Bool.and_eq_true, decide_eq_true_eq, decide_eq_true_eq] at hf
    exact hf.1.1
  have hs : (S (plainC z.cps.toList)).length ≤ sizeLine := by
    rw [lenC]
    have := plain_len z.cps.toList
    rw [← lenS] at this
    exact Nat.le_trans (Nat.le_trans this hl) (by decide)
  refine w_cons ?_
  walk_at "y1"
  simp only [ixU, hs, true_and]
  cases hp : plainC z.cps.toList with
  | nil => rw [hp] at h1; exact absurd h1 (by decide)
  | cons c r =>
    refine ⟨c, atI_nat (j := 0) rfl, ?_⟩
    rw [hp] at q hi hf
    have fin : ¬ (c = 48 ∧ z.cps.toList ≠ [48]) → wpSs Γ E ir_number_of_4 (DF Q) [some (.str z), some (.str (S (c :: r))), σ2] G := fun hn => by
      refine w_cons ?_
      walk_at "y1"
      rw [if_pos ⟨hf, fun ⟨h1, h2⟩ => hn ⟨Option.some.inj h1, h2⟩⟩] at q
      exact ⟨_, hi, by omega, w_go q⟩
    by_cases e : c = 48
    · subst e
      have e1 : eqSc (.str ⟨#[48]⟩) (.str (S [48])) = true := by decide +kernel
      simp only [eqU, scU, if_true, e1, Bool.false_eq_true, if_false]
      by_cases e0 : z.cps.toList = [48]
      · have ez : z = S [48] := by have h := str_eta z; rw [e0] at h; exact h.symm
        have e2 : eqSc (.str z) (.str (S [48])) = true := decide_eq_true ez
        simp only [e2, Bool.not_true, Bool.false_eq_true, if_false]
        exact w_go (fin fun h => h.2 e0)
      · have ez : ¬ z = S [48] := fun h => e0 (congrArg (fun y : Str => y.cps.toList) h)
        have e2 : eqSc (.str z) (.str (S [48])) = false := decide_eq_false ez
        simp only [e2, Bool.not_false, if_true]
        rw [if_neg (fun h => h.2 ⟨rfl, e0⟩)] at q
        exact w_ret (w_go q)
    · have e1 : eqSc (.str ⟨#[c]⟩) (.str (S [48])) = false := decide_eq_false fun h => e (by
        have := congrArg (fun y : Str => y.cps.toList) h
        exact (List.cons.inj this).1)
      simp only [eqU, scU, if_true, e1, Bool.false_eq_true, if_false]
      exact w_go (fin fun h => e h.1)
theorem lc_signs {p : Nat → Bool} {G : Gp} {D : Addr} {Q : Gp → Prop} {σ : SU} {g : TGU} {te : TEU} (cs : List Nat) (hz : cs.length ≤ sizeLine) (hstep : ∀ c ∈ cs, ∀ (l : List U) (K : UK), K (.bl (p c)) (put G D (.lst l)) → g (.str ⟨#[c]⟩) σ (put G D (.lst l)) fun σ2 G2 => te σ2 G2 K)
    (q : Q (put G D (.lst (cs.map fun c => .bl (p c))))) : lcU g (fun _ G K => K true G) te (fun _ => True) D σ Q (cs.map fun c => .str ⟨#[c]⟩) [] (put G D (.lst [])) := by
  refine lc_map (fun u => match u with | .str a => .bl (p (a.cps.toList.headD 0)) | _ => .non) _ (fun _ => trivial) (fun x hx l K hK => ?_) ?_ ?_
  · obtain ⟨c, hc, rfl⟩ := List.mem_map.mp hx
    exact hstep c hc l K hK
  · rw [List.length_map]; exact hz
  · rw [List.map_map]
    exact q
theorem t_number_of_2 {Γ : Gm} {E : XS} {G : Gp} {Q : UK} {z : Str} {σ2 : Option U} (hl : z.length ≤ 600) (q : Q (optI (numC z.cps.toList)) G) :
    wpSs Γ E ir_number_of_2 (DF Q) [some (.str z), some (.str (S (plainC z.cps.toList))), σ2] G := by
  have hp : (plainC z.cps.toList).length ≤ 600 := by
    have := plain_len z.cps.toList
    rw [← lenS] at this
    omega
  have hs : (S (plainC z.cps.toList)).length ≤ sizeLine := by rw [lenC]; exact Nat.le_trans hp (by decide)
  have no : figs (plainC z.cps.toList) = false → Q .non G := fun h => by
    rw [numC_eq, if_neg (fun z => by rw [h] at z; exact Bool.false_ne_true z.1)] at q
    exact q
  refine w_cons ?_
  walk_at "y1"
  have hs' : (plainC z.cps.toList).length ≤ sizeLine := by rw [lenC] at hs; exact hs
  simp only [lenU, true_and, lenC, hs']
  by_cases h1 : 1 ≤ (plainC z.cps.toList).length
  · have h1' : (1 : Int) ≤ ((plainC z.cps.toList).length : Int) := by omega
    simp only [h1', decide_true, if_true]
    by_cases h10 : (plainC z.cps.toList).length ≤ 10
    · have h10' : ((plainC z.cps.toList).length : Int) ≤ 10 := by omega
      simp only [h10', decide_true, Bool.not_true, Bool.false_eq_true, if_false, seqU]
      intro D hD
      refine lc_signs (p := fun c => decide (c ∈ figuresC)) _ (by rw [lenC] at hs; exact hs) (fun c _ l K hK => hK) ?_
      simp only [lsU, lsG_put, blsU_map]
      rw [List.all_map]
      have er : (plainC z.cps.toList).all (id ∘ fun c => decide (c ∈ figuresC)) = (plainC z.cps.toList).all (fun c => decide (c ∈ figuresC)) := rfl
      rw [er]
      by_cases hall : (plainC z.cps.toList).all (fun c => decide (c ∈ figuresC)) = true
      · rw [hall]
        simp only [Bool.not_true, Bool.false_eq_true, if_false]
        have hf : figs (plainC z.cps.toList) = true := by unfold figs; rw [hall, decide_eq_true h1, decide_eq_true h10]; rfl
        exact ⟨G, Sub.put hD, t_number_of_3 hl hf q⟩
      · rw [Bool.not_eq_true] at hall
        rw [hall]
        simp only [Bool.not_false, if_true]
        exact w_ret ⟨G, Sub.put hD, no (by unfold figs; rw [hall, Bool.and_false])⟩
    · have h10' : ¬ ((plainC z.cps.toList).length : Int) ≤ 10 := by omega
      simp only [h10', decide_false, Bool.not_false, if_true]
      exact w_ret (w_go (no (by unfold figs; rw [decide_eq_false h10, Bool.and_false, Bool.false_and])))
  · have h1' : ¬ (1 : Int) ≤ ((plainC z.cps.toList).length : Int) := by omega
    simp only [h1', decide_false, Bool.false_eq_true, if_false, Bool.not_false, if_true]
    exact w_ret (w_go (no (by unfold figs; rw [decide_eq_false h1, Bool.false_and, Bool.false_and])))
theorem w_number_of {Γ : Gm} {E : XS} {us : List U} {G : Gp} {Q : UK} {X : XU} (h : sp_number_of us G Q X) : wpSs Γ E ir_number_of (DF Q) (startU ce_number_of.N us) G := by
  obtain ⟨x, t, rfl, ht, hz, q⟩ := h
  unfold ir_number_of ce_number_of
  refine w_cons ?_
  walk_at "y1"
  simp only [ht]
  by_cases e : t = .str
  · subst e
    obtain ⟨z, rfl⟩ := tyU_str ht
    have hl := hz z rfl
    have hs : z.length ≤ sizeLine := Nat.le_trans hl (by decide)
    simp only [BT.sub, decide_true, Bool.not_true, Bool.false_eq_true, if_false]
    refine w_go (w_cons ?_)
    walk_at "y1"
    simp only [tmU, bmU, true_and, starts45]
    have rest : ∀ σ2, wpSs Γ E ir_number_of_2 (DF Q) [some (.str z), some (.str (S (plainC z.cps.toList))), σ2] G := fun σ2 => t_number_of_2 hl q
    by_cases e45 : z.cps.toList.head? = some 45
    · simp only [e45, decide_true, if_true, slcU, hs, true_and, cut1]
      have ep : plainC z.cps.toList = z.cps.toList.drop 1 := by unfold plainC; rw [if_pos e45, List.drop_one]
      rw [ep] at rest
      exact w_go (rest _)
    · simp only [e45, decide_false, Bool.false_eq_true, if_false]
      have ep : plainC z.cps.toList = z.cps.toList := by unfold plainC; rw [if_neg e45]
      rw [ep, str_eta] at rest
      exact w_go (rest _)
  · have ef : BT.sub t .str = false := by cases t <;> first | rfl | exact absurd rfl e
    have nx : nuU x = .non := by
      unfold nuU
      split
      · exact absurd (Option.some.inj ht).symm e
      · rfl
    simp only [ef, Bool.not_false, if_true]
    rw [nx] at q
    exact w_ret (w_go q)
end Y

namespace Y
open PySem PySem.Spec PyProof.Rows L2
local macro_rules | `(tactic| walk_at "y1") => `(tactic| simp only [wpS, wpE, wpEs, wpO, wpC, wpI, biU, binU, cmpU, intU, isB, partU, gU, gsU, startU, DF, List.map_cons, List.map_nil, List.length_cons, List.length_nil, List.cons_append, List.nil_append, List.replicate, List.getElem?_cons_zero, List.getElem?_cons_succ, List.set_cons_zero, List.set_cons_succ, true_and, and_true, if_true, Bool.false_eq_true, if_false, Nat.reduceAdd, Nat.reduceSub, w_nil])
/-! ### words_of -/
def wdC (z : Str) : List Str := Txt.split z (S [32])
def hasE (z : Str) : Bool := (wdC z).any fun y => y == S []
def sp_words_of : SpU := fun us G Q _ => ∃ x t, us = [x] ∧ tyU G x = some t ∧ (∀ z, x = .str z → z.length ≤ 100000) ∧ (t ≠ .str → Q .non G) ∧ ∀ z, x = .str z → (hasE z = true → Q .non G) ∧ (hasE z = false → ∀ p, G p = none → Q (.ref p) (put G p (.lst ((wdC z).map U.str))))
theorem flt_strs : ∀ ws : List Str, (ws.map U.str).all fltU = true
  | [] => rfl
  | w :: ws => by rw [List.map_cons, List.all_cons, flt_strs ws]; rfl
theorem in_strs (y : Str) : ∀ ws : List Str, inF (.str y) (ws.map U.str) = ws.any fun x => x == y
  | [] => rfl
  | w :: ws => by
    have ih := in_strs y ws
    unfold inF at ih ⊢
    rw [List.map_cons, List.any_cons, List.any_cons, ih]
    rfl
theorem w_words_of {Γ : Gm} {E : XS} {us : List U} {G : Gp} {Q : UK} {X : XU} (h : sp_words_of us G Q X) : wpSs Γ E ir_words_of (DF Q) (startU ce_words_of.N us) G := by
  obtain ⟨x, t, rfl, ht, hz, q1, q2⟩ := h
  unfold ce_words_of
  refine w_cons ?_
  walk_at "y1"
  simp only [ht]
  by_cases e : t = .str
  · subst e
    obtain ⟨z, rfl⟩ := tyU_str ht
    obtain ⟨qa, qb⟩ := q2 z rfl
    have hl := hz z rfl
    have hs : z.length + 2 ≤ sizeLine := Nat.le_trans (Nat.add_le_add_right hl 2) (by decide)
    simp only [BT.sub, decide_true, Bool.not_true, Bool.false_eq_true, if_false]
    refine w_go (w_cons ?_)
    walk_at "y1"
    simp only [tmU, bmU, true_and]
    refine ⟨rfl, hs, fun p np => w_go (w_cons ?_)⟩
    walk_at "y1"
    simp only [inU, rdL, lsG_put, fltU, true_and]
    have ei : inF (.str (S [])) ((Txt.split z (S [32])).map U.str) = hasE z := in_strs _ _
    refine ⟨flt_strs _, ?_⟩
    rw [ei]
    cases hh : hasE z with
    | true =>
      simp only [Bool.false_eq_true, if_false, if_true]
      exact w_ret ⟨G, Sub.put np, qa hh⟩
    | false =>
      simp only [Bool.false_eq_true, if_false]
      exact w_go (w_cons (w_go (qb hh p np)))
  · have ef : BT.sub t .str = false := by cases t <;> first | rfl | exact absurd rfl e
    simp only [ef, Bool.not_false, if_true]
    exact w_ret (w_go (q1 e))
/-! ### the law's own numbers and words -/
def mix0 (c k : Int) : Int := c % 1000000007 + 7919 * k + 13
def mixI (c k : Int) : Int := mix0 c k * mix0 c k % 1000000007 * 48271 % 2147483647
def sp_mixed : SpU := fun us G Q _ => ∃ c k, us = [.int c, .int k] ∧ 0 ≤ k ∧ k ≤ 1000 ∧ Q (.int (mixI c k)) G
theorem mixI_nn (c k : Int) : 0 ≤ mixI c k ∧ mixI c k < 2147483647 := ⟨Int.emod_nonneg _ (by decide), Int.emod_lt_of_pos _ (by decide)⟩
theorem w_mixed {Γ : Gm} {E : XS} {us : List U} {G : Gp} {Q : UK} {X : XU} (h : sp_mixed us G Q X) : wpSs Γ E ir__law_mixed (DF Q) (startU ce__law_mixed.N us) G := by
  obtain ⟨c, k, rfl, h0, h1, q⟩ := h
  unfold ce__law_mixed
  refine w_cons ?_
  walk_at "y1"
  simp only [addU, mulU]
  have hc := Int.emod_nonneg c (show (1000000007 : Int) ≠ 0 by decide)
  have hc2 := Int.emod_lt_of_pos c (show (0 : Int) < 1000000007 by decide)
  refine ⟨by decide, .inl (.inl ⟨by decide, by decide⟩), w_go (w_cons ?_)⟩
  walk_at "y1"
  simp only [mulU]
  have b1 : -(2 ^ 64) < c % 1000000007 + 7919 * k + 13 ∧ c % 1000000007 + 7919 * k + 13 < 2 ^ 64 := by omega
  refine ⟨.inl (.inl b1), by decide, .inl (.inr ⟨by decide, by decide⟩), by decide, w_go q⟩
def wordL (n : Int) (cs : List Nat) : List Nat := (List.range (n % 13).toNat).map fun k => cs.getD (mixI n (k : Nat) % (cs.length : Int)).toNat 0
def sp_word : SpU := fun us G Q _ => ∃ n z, us = [.int n, .str z] ∧ 1 ≤ z.length ∧ z.length ≤ 100 ∧ Q (.str (S (wordL n z.cps.toList))) G
theorem join_signs (cs : List Nat) : Txt.join (S []) (cs.map fun c => (⟨#[c]⟩ : Str)) = S cs := by
  have key : ∀ cs : List Nat, TL.joinL [] (cs.map fun c => [c]) = cs := by
    intro cs
    induction cs with
    | nil => rfl
    | cons a l ih =>
      cases l with
      | nil => rfl
      | cons b l => exact congrArg (a :: ·) ih
  refine TL.ext_tl ?_
  rw [TL.join_eq, TL.tl_join, List.map_map]
  exact key cs
theorem sum_ones (cs : List Nat) : ((cs.map fun c => (⟨#[c]⟩ : Str)).map (·.length)).sum = cs.length := by
  induction cs with
  | nil => rfl
  | cons a l ih =>
    rw [List.map_cons, List.map_cons, List.sum_cons, ih, List.length_cons]
    show 1 + l.length = _
    omega
theorem w_word {Γ : Gm} {E : XS} {us : List U} {G : Gp} {Q : UK} {X : XU} (h5 : Γ.fn f__law_mixed = sp_mixed) (a5 : Γ.ar f__law_mixed = 2) (h : sp_word us G Q X) : wpSs Γ E ir__law_word (DF Q) (startU ce__law_word.N us) G := by
  obtain ⟨n, z, rfl, h1, h2, q⟩ := h
  unfold ce__law_word
  refine w_cons ?_
  walk_at "y1"
  simp only [tmU, true_and]
  have hn := Int.emod_nonneg n (show (13 : Int) ≠ 0 by decide)
  have hn2 := Int.emod_lt_of_pos n (show (0 : Int) < 13 by decide)
  refine ⟨by decide, by omega, by omega, fun D hD => ?_⟩
  have hz : z.length ≤ sizeLine := Nat.le_trans h2 (by decide)
  have ez := lenS z
  refine lc_map (fun u => match u with | .int k => .str ⟨#[z.cps.toList.getD (mixI n k % (z.cps.toList.length : Int)).toNat 0]⟩ | _ => .non) _ (fun _ => trivial) (fun x hx l K hK => ?_) ?_ ?_
  · unfold rngU at hx
    obtain ⟨k, hk, rfl⟩ := List.mem_map.mp hx
    rw [List.mem_range] at hk
    rw [h5, a5]
    refine ⟨rfl, n, _, rfl, by omega, by omega, ?_⟩
    simp only [lenU]
    refine ⟨hz, by omega, ?_⟩
    simp only [ixU]
    refine ⟨hz, ?_⟩
    have hm := Int.emod_nonneg (mixI n (0 + (k : Int))) (show ((z.length : Nat) : Int) ≠ 0 by omega)
    have hm2 := Int.emod_lt_of_pos (mixI n (0 + (k : Int))) (show (0 : Int) < ((z.length : Nat) : Int) by omega)
    have hlt : (mixI n (0 + (k : Int)) % ((z.length : Nat) : Int)).toNat < z.cps.toList.length := by rw [← ez]; omega
    refine ⟨z.cps.toList.getD (mixI n (0 + (k : Int)) % (z.cps.toList.length : Int)).toNat 0, ?_, hK⟩
    have e : mixI n (0 + (k : Int)) % ((z.length : Nat) : Int) = (((mixI n (0 + (k : Int)) % ((z.length : Nat) : Int)).toNat : Nat) : Int) := (Int.toNat_of_nonneg hm).symm
    rw [← ez]
    rw [e]
    rw [Int.toNat_natCast]
    refine atI_nat ?_
    rw [List.getD_eq_getElem?_getD, List.getElem?_eq_getElem hlt]
    rfl
  · rw [rngU_len]
    exact Nat.le_trans (show (n % 13).toNat ≤ 13 by omega) (by decide)
  · simp only [bmU, rdL, lsG_put]
    have e : (rngU 0 (n % 13).toNat).map (fun u => match u with | .int k => U.str ⟨#[z.cps.toList.getD (mixI n k % (z.cps.toList.length : Int)).toNat 0]⟩ | _ => .non) = (wordL n z.cps.toList).map (fun c => U.str ⟨#[c]⟩) := by
      unfold rngU wordL
      rw [List.map_map, List.map_map]
      refine List.map_congr_left fun k _ => ?_
      show U.str _ = U.str _
      rw [Int.zero_add]
    rw [e, strsU_map]
    simp only [join_signs, sum_ones]
    have hw : (wordL n z.cps.toList).length ≤ 13 := by
      unfold wordL
      rw [List.length_map, List.length_range]
      omega
    refine ⟨?_, ⟨G, Sub.put hD, q⟩⟩
    rw [show (S []).length = 0 from rfl, Nat.mul_zero]
    omega
end Y

namespace Y
open PySem PySem.Spec PyProof.Rows L2
local macro_rules | `(tactic| walk_at "y1") => `(tactic| simp only [wpS, wpE, wpEs, wpO, wpC, wpI, biU, binU, cmpU, intU, isB, partU, gU, gsU, startU, DF, List.map_cons, List.map_nil, List.length_cons, List.length_nil, List.cons_append, List.nil_append, List.replicate, List.getElem?_cons_zero, List.getElem?_cons_succ, List.set_cons_zero, List.set_cons_succ, true_and, and_true, if_true, Bool.false_eq_true, if_false, Nat.reduceAdd, Nat.reduceSub, w_nil])
/-! ### the law's own number -/
theorem cut0 (z : Str) : cutS z none (some 1) = S (z.cps.toList.take 1) := by
  unfold cutS
  rw [show HT.sIx z.length z.length (some 1) = min 1 z.length from HT.sIx_nat z.length z.length 1, HT.sIx_none, lenS, List.drop_zero, Nat.sub_zero]
  congr 2
  generalize z.cps.toList = l
  cases l with
  | nil => rfl
  | cons a l =>
    have e : min 1 (a :: l).length = 1 := by rw [List.length_cons]; omega
    rw [e]
theorem take45 (cs : List Nat) : decide (S (cs.take 1) = S [45]) = decide (cs.head? = some 45) := by
  cases cs with
  | nil => exact decide_eq_decide.mpr ⟨fun h => (nomatch S_inj h), fun h => (nomatch h)⟩
  | cons a l =>
    refine decide_eq_decide.mpr ⟨fun h => ?_, fun h => ?_⟩
    · have := S_inj h
      exact congrArg some (List.cons.inj this).1
    · cases h; rfl
theorem fm_signs (p : Nat → Bool) : ∀ cs : List Nat, List.filterMap ((fun u => match u with | .str a => if p (a.cps.toList.headD 0) = true then some u else none | _ => none) ∘ fun c => U.str ⟨#[c]⟩) cs = (cs.filter p).map fun c => U.str ⟨#[c]⟩
  | [] => rfl
  | a :: l => by
    have ih := fm_signs p l
    rw [List.filterMap_cons, ih]
    cases hp : p a with
    | true => simp [List.filter_cons, hp]
    | false => simp [List.filter_cons, hp]
theorem lc_signsF {p : Nat → Bool} {G : Gp} {D : Addr} {Q : Gp → Prop} {σ : SU} {g : TGU} {tt : TTU} {te : TEU} (cs : List Nat) (hz : cs.length ≤ sizeLine)
    (hstep : ∀ c ∈ cs, ∀ (l : List U) (K : UK) (L : Gp → Prop), (p c = true → K (.str ⟨#[c]⟩) (put G D (.lst l))) → (p c = false → L (put G D (.lst l))) → g (.str ⟨#[c]⟩) σ (put G D (.lst l)) fun σ2 G2 => tt σ2 G2 fun b G3 => if b = true then te σ2 G3 K else L G3)
    (q : Q (put G D (.lst ((cs.filter p).map fun c => .str ⟨#[c]⟩)))) : lcU g tt te (fun _ => True) D σ Q (cs.map fun c => .str ⟨#[c]⟩) [] (put G D (.lst [])) := by
  refine lc_run (fun u => match u with | .str a => if p (a.cps.toList.headD 0) = true then some u else none | _ => none) _ [] (fun _ => trivial) (fun x hx l K L h => ?_) ?_ ?_
  · obtain ⟨c, hc, rfl⟩ := List.mem_map.mp hx
    refine hstep c hc l K L (fun e => ?_) (fun e => ?_)
    · have e' : p ((⟨#[c]⟩ : Str).cps.toList.headD 0) = true := e
      simp only [e', if_true] at h
      exact h
    · have e' : p ((⟨#[c]⟩ : Str).cps.toList.headD 0) = false := e
      simp only [e', Bool.false_eq_true, if_false] at h
      exact h
  · rw [List.length_map]; simpa using hz
  · rw [List.filterMap_map]
    rw [fm_signs p cs]
    exact q
theorem fig_index (c : Nat) (h : c ∈ figuresC) : Txt.index0 (S figuresC) ⟨#[c]⟩ = some (c - 48) := by
  unfold figuresC at h
  simp only [List.mem_cons, List.not_mem_nil, or_false] at h
  rcases h with rfl | rfl | rfl | rfl | rfl | rfl | rfl | rfl | rfl | rfl <;> decide +kernel
theorem t_num_loop {Γ : Gm} {E : XS} {D : EU} {G : Gp} {a b : Option U} : ∀ (cs : List Nat) (v : Nat) (s3 : Option U), (∀ c ∈ cs, c ∈ figuresC) → (∀ s3', D.nx [a, b, some (.int ((cs.foldl (fun acc c => acc * 10 + (c - 48)) v : Nat) : Int)), s3'] G) →
    loopU (gU (.name 3)) (wpSs Γ E ir__law_number_6) (fun _ => True) (cs.map fun c => .str ⟨#[c]⟩) D [a, b, some (.int (v : Nat)), s3] G
  | [], v, s3, _, q => ⟨trivial, q s3⟩
  | c :: cs, v, s3, h, q => by
    refine ⟨trivial, ?_⟩
    simp only [gU, List.set_cons_succ, List.set_cons_zero]
    refine w_cons ?_
    walk_at "y1"
    simp only [mulU, tmU, bmU, true_and]
    refine ⟨.inl (.inr ⟨by decide, by decide⟩), ?_⟩
    have hi := fig_index c (h c List.mem_cons_self)
    unfold figuresC at hi
    rw [hi]
    simp only [addU]
    refine w_go ?_
    have e : (v : Int) * 10 + ((c - 48 : Nat) : Int) = ((v * 10 + (c - 48) : Nat) : Int) := by simp
    rw [e]
    exact t_num_loop cs (v * 10 + (c - 48)) _ (fun c hc => h c (List.mem_cons_of_mem _ hc)) q
def sp_number : SpU := fun us G Q _ => ∃ z, us = [.str z] ∧ z.length ≤ 600 ∧ okS z ∧ Q (optI (numC z.cps.toList)) G
theorem plain_mem {cs : List Nat} {c : Nat} (h : c ∈ plainC cs) : c ∈ cs := by
  unfold plainC at h
  split at h
  · exact List.mem_of_mem_tail h
  · exact h
theorem eq_plain (z : Str) : decide (S (plainC z.cps.toList) = z) = !decide (z.cps.toList.head? = some 45) := by
  by_cases e : z.cps.toList.head? = some 45
  · rw [decide_eq_true e]
    refine decide_eq_false fun h => ?_
    have hp : plainC z.cps.toList = z.cps.toList.tail := by unfold plainC; rw [if_pos e]
    have h2 : plainC z.cps.toList = z.cps.toList := congrArg (fun y : Str => y.cps.toList) h
    rw [hp] at h2
    have h3 := congrArg List.length h2
    rw [List.length_tail] at h3
    cases hz : z.cps.toList with
    | nil => rw [hz] at e; cases e
    | cons a l => rw [hz, List.length_cons] at h3; omega
  · rw [decide_eq_false e]
    refine decide_eq_true ?_
    have hp : plainC z.cps.toList = z.cps.toList := by unfold plainC; rw [if_neg e]
    rw [hp]
theorem t_law_number_2 {Γ : Gm} {E : XS} {G : Gp} {Q : UK} {z : Str} {s2 s3 : Option U} (hl : z.length ≤ 600) (hf : figs (plainC z.cps.toList) = true) (q : Q (optI (numC z.cps.toList)) G) :
    wpSs Γ E ir__law_number_2 (DF Q) [some (.str z), some (.str (S (plainC z.cps.toList))), s2, s3] G := by
  rw [numC_eq] at q
  have hfd := hf
  unfold figs at hf
  rw [Bool.and_eq_true, Bool.and_eq_true, decide_eq_true_eq, decide_eq_true_eq, List.all_eq_true] at hf
  obtain ⟨⟨h1, h10⟩, hall⟩ := hf
  have hs : (S (plainC z.cps.toList)).length ≤ sizeLine := by rw [lenC]; exact Nat.le_trans h10 (by decide)
  refine w_cons ?_
  walk_at "y1"
  simp only [ixU]
  refine ⟨hs, ?_⟩
  have hep := eq_plain z
  have last : ∀ v : Nat, ∀ s3', Q (.int (if z.cps.toList.head? = some 45 then -(v : Int) else (v : Int))) G → wpSs Γ E ir__law_number_5 (DF Q) [some (.str z), some (.str (S (plainC z.cps.toList))), some (.int (v : Nat)), s3'] G := by
    intro v s3' h
    refine w_cons ?_
    walk_at "y1"
    have e1 : eqSc (.str (S (plainC z.cps.toList))) (.str z) = !decide (z.cps.toList.head? = some 45) := hep
    simp only [eqU, scU, if_true, Bool.false_eq_true, if_false, e1]
    by_cases e45 : z.cps.toList.head? = some 45
    · simp only [e45, decide_true, Bool.not_true, Bool.false_eq_true, if_false]
      rw [if_pos e45] at h
      rw [Int.zero_sub]
      exact w_go h
    · simp only [e45, decide_false, Bool.not_false, if_true]
      rw [if_neg e45] at h
      exact w_go h
  cases hp : plainC z.cps.toList with
  | nil => rw [hp] at h1; exact absurd h1 (by decide)
  | cons c r =>
    refine ⟨c, atI_nat (j := 0) rfl, ?_⟩
    rw [hp] at q hfd hall last
    have fin : ¬ (c = 48 ∧ z.cps.toList ≠ [48]) → wpSs Γ E ir__law_number_3 (DF Q) [some (.str z), some (.str (S (c :: r))), s2, s3] G := fun hn => by
      refine w_cons ?_
      walk_at "y1"
      refine w_go (w_cons ?_)
      walk_at "y1"
      simp only [seqU]
      refine t_num_loop (c :: r) 0 s3 (fun d hd => of_decide_eq_true (hall d hd)) fun s3' => w_go (last _ s3' ?_)
      rw [if_pos ⟨hfd, fun ⟨h1, h2⟩ => hn ⟨Option.some.inj h1, h2⟩⟩] at q
      exact q
    by_cases e : c = 48
    · subst e
      have e1 : eqSc (.str ⟨#[48]⟩) (.str (S [48])) = true := by decide +kernel
      simp only [eqU, scU, if_true, e1, Bool.false_eq_true, if_false]
      by_cases e0 : z.cps.toList = [48]
      · have ez : z = S [48] := by have h := str_eta z; rw [e0] at h; exact h.symm
        have e2 : eqSc (.str z) (.str (S [48])) = true := decide_eq_true ez
        simp only [e2, Bool.not_true, Bool.false_eq_true, if_false]
        exact w_go (fin fun h => h.2 e0)
      · have ez : ¬ z = S [48] := fun h => e0 (congrArg (fun y : Str => y.cps.toList) h)
        have e2 : eqSc (.str z) (.str (S [48])) = false := decide_eq_false ez
        simp only [e2, Bool.not_false, if_true]
        rw [if_neg (fun h => h.2 ⟨rfl, e0⟩)] at q
        exact w_ret (w_go q)
    · have e1 : eqSc (.str ⟨#[c]⟩) (.str (S [48])) = false := decide_eq_false fun h => e (by
        have := congrArg (fun y : Str => y.cps.toList) h
        exact (List.cons.inj this).1)
      simp only [eqU, scU, if_true, e1, Bool.false_eq_true, if_false]
      exact w_go (fin fun h => e h.1)
theorem t_law_number_1 {Γ : Gm} {E : XS} {G : Gp} {Q : UK} {z : Str} {s2 s3 : Option U} (hl : z.length ≤ 600) (ok : okS z) (q : Q (optI (numC z.cps.toList)) G) :
    wpSs Γ E ir__law_number_1 (DF Q) [some (.str z), some (.str (S (plainC z.cps.toList))), s2, s3] G := by
  have hp : (plainC z.cps.toList).length ≤ 600 := by
    have := plain_len z.cps.toList
    rw [← lenS] at this
    omega
  have hs' : (plainC z.cps.toList).length ≤ sizeLine := Nat.le_trans hp (by decide)
  have no : figs (plainC z.cps.toList) = false → Q .non G := fun h => by
    rw [numC_eq, if_neg (fun z => by rw [h] at z; exact Bool.false_ne_true z.1)] at q
    exact q
  refine w_cons ?_
  walk_at "y1"
  simp only [lenU, true_and, lenC, hs']
  by_cases h1 : 1 ≤ (plainC z.cps.toList).length
  · have h1' : (1 : Int) ≤ ((plainC z.cps.toList).length : Int) := by omega
    simp only [h1', decide_true, if_true]
    by_cases h10 : (plainC z.cps.toList).length ≤ 10
    · have h10' : ((plainC z.cps.toList).length : Int) ≤ 10 := by omega
      simp only [h10', decide_true, Bool.not_true, Bool.false_eq_true, if_false, seqU]
      intro D hD
      refine lc_signsF (p := fun c => !decide (c ∈ figuresC)) _ hs' (fun c _ l K L h1 h2 => ?_) ?_
      · show if (!decide (c ∈ figuresC)) = true then K (.str ⟨#[c]⟩) (put G D (.lst l)) else L (put G D (.lst l))
        split
        · rename_i h; exact h1 h
        · rename_i h; exact h2 (by simpa using h)
      · refine ⟨by decide, fun p np => ?_⟩
        have ne : D ≠ p := fun e => by rw [e] at np; rw [put_same] at np; cases np
        have np0 : G p = none := by rw [put_ne (Ne.symm ne)] at np; exact np
        refine eq_strs (as := ((plainC z.cps.toList).filter fun c => !decide (c ∈ figuresC)).map fun c => (⟨#[c]⟩ : Str)) (bs := []) ?_ ?_ ?_ ?_ ?_
        · rw [put_ne ne, put_same, List.map_map]
          rfl
        · rw [put_same]; rfl
        · intro y hy
          obtain ⟨c, hc, rfl⟩ := List.mem_map.mp hy
          intro d hd
          have e : d = c := by simpa using hd
          subst e
          exact ok d (plain_mem (List.mem_filter.mp hc).1)
        · intro y hy; cases hy
        · simp only [if_true]
          have sb : Sub G (put (put G D (.lst (((plainC z.cps.toList).filter fun c => !decide (c ∈ figuresC)).map fun c => .str ⟨#[c]⟩))) p (.lst [])) := (Sub.put hD).trans (Sub.put np)
          have ek : (((plainC z.cps.toList).filter fun c => !decide (c ∈ figuresC)).map fun c => (⟨#[c]⟩ : Str)) = [] ↔ (plainC z.cps.toList).all (fun c => decide (c ∈ figuresC)) = true := by
            rw [List.map_eq_nil_iff, List.filter_eq_nil_iff, List.all_eq_true]
            constructor
            · intro h c hc
              have := h c hc
              simpa using this
            · intro h c hc
              have := h c hc
              simpa using this
          by_cases hall : (plainC z.cps.toList).all (fun c => decide (c ∈ figuresC)) = true
          · rw [decide_eq_true (ek.mpr hall)]
            simp only [Bool.not_true, Bool.false_eq_true, if_false]
            have hf : figs (plainC z.cps.toList) = true := by unfold figs; rw [hall, decide_eq_true h1, decide_eq_true h10]; rfl
            exact ⟨G, sb, t_law_number_2 hl hf q⟩
          · rw [decide_eq_false (fun h => hall (ek.mp h))]
            rw [Bool.not_eq_true] at hall
            simp only [Bool.not_false, if_true]
            exact w_ret ⟨G, sb, no (by unfold figs; rw [hall, Bool.and_false])⟩
    · have h10' : ¬ ((plainC z.cps.toList).length : Int) ≤ 10 := by omega
      simp only [h10', decide_false, Bool.not_false, if_true]
      exact w_ret (w_go (no (by unfold figs; rw [decide_eq_false h10, Bool.and_false, Bool.false_and])))
  · have h1' : ¬ (1 : Int) ≤ ((plainC z.cps.toList).length : Int) := by omega
    simp only [h1', decide_false, Bool.false_eq_true, if_false, Bool.not_false, if_true]
    exact w_ret (w_go (no (by unfold figs; rw [decide_eq_false h1, Bool.false_and, Bool.false_and])))
theorem w_number {Γ : Gm} {E : XS} {us : List U} {G : Gp} {Q : UK} {X : XU} (h : sp_number us G Q X) : wpSs Γ E ir__law_number (DF Q) (startU ce__law_number.N us) G := by
  obtain ⟨z, rfl, hl, ok, q⟩ := h
  have hs : z.length ≤ sizeLine := Nat.le_trans hl (by decide)
  unfold ce__law_number
  refine w_cons ?_
  walk_at "y1"
  simp only [slcU, hs, true_and, cut0, cut1]
  have e1 : eqSc (.str (S (z.cps.toList.take 1))) (.str (S [45])) = decide (z.cps.toList.head? = some 45) := take45 _
  simp only [eqU, scU, if_true, Bool.false_eq_true, if_false, e1]
  have rest := fun s2 s3 => t_law_number_1 (Γ := Γ) (E := E) (s2 := s2) (s3 := s3) hl ok q
  by_cases e45 : z.cps.toList.head? = some 45
  · simp only [e45, decide_true, if_true]
    have ep : plainC z.cps.toList = z.cps.toList.drop 1 := by unfold plainC; rw [if_pos e45, List.drop_one]
    rw [ep] at rest
    exact w_go (rest _ _)
  · simp only [e45, decide_false, Bool.false_eq_true, if_false]
    have ep : plainC z.cps.toList = z.cps.toList := by unfold plainC; rw [if_neg e45]
    rw [ep, str_eta] at rest
    exact w_go (rest _ _)
end Y

namespace Y
open PySem PySem.Spec PyProof.Rows L2
local macro_rules | `(tactic| walk_at "y1") => `(tactic| simp only [wpS, wpE, wpEs, wpO, wpC, wpI, biU, binU, cmpU, intU, isB, partU, gU, gsU, startU, DF, List.map_cons, List.map_nil, List.length_cons, List.length_nil, List.cons_append, List.nil_append, List.replicate, List.getElem?_cons_zero, List.getElem?_cons_succ, List.set_cons_zero, List.set_cons_succ, true_and, and_true, if_true, Bool.false_eq_true, if_false, Nat.reduceAdd, Nat.reduceSub, w_nil])
def sp_one : SpU := fun us G Q _ => ∃ z, us = [.str z] ∧ z.length ≤ 500 ∧ okS z ∧ Q (.bl true) G
/-- words without blanks -/
def GoodW (ws : List Str) : Prop := ∀ w ∈ ws, w.cps.toList ≠ [] ∧ 32 ∉ w.cps.toList ∧ okS w ∧ w.length ≤ 20
def sp_row : SpU := fun us G Q _ => ∃ a ws n, us = [.ref a, .int n] ∧ G a = some (.lst (ws.map U.str)) ∧ ws ≠ [] ∧ ws.length ≤ 200 ∧ GoodW ws ∧ 0 ≤ n ∧ Q (.bl true) G
def spL01 : List SpU := [sp_is_whole, sp_is_among, sp_is_name, sp_number_of, sp_words_of, sp_mixed, sp_word, sp_number, sp_one, sp_row]
def gm : Gm := { fn := fun i => spL01.getD i noSp, ar := fun i => [1, 3, 1, 1, 1, 2, 2, 1, 1, 2].getD i 0, mt := fun _ _ => none, ini := fun _ => none }
theorem name_small (cs : List Nat) : nameC cs = (decide ((cs.filter fun c => decide (c ∈ lettersC)).length = cs.length) && (decide (1 ≤ cs.length) && decide (cs.length ≤ 8)) && !decide (cs ∈ ownC)) := by
  have e : decide ((cs.filter fun c => decide (c ∈ lettersC)).length = cs.length) = cs.all fun c => decide (c ∈ lettersC) := by
    rw [Bool.eq_iff_iff, decide_eq_true_eq, List.all_eq_true]
    exact List.length_filter_eq_length_iff
  unfold nameC
  rw [e]
  cases cs.all fun c => decide (c ∈ lettersC) <;> simp
theorem w_one {E : XS} {us : List U} {G : Gp} {Q : UK} {X : XU} (h : sp_one us G Q X) : wpSs gm E ir__law_one (DF Q) (startU ce__law_one.N us) G := by
  obtain ⟨z, rfl, hl, ok, q⟩ := h
  have hs : z.length ≤ sizeLine := Nat.le_trans hl (by decide)
  have ez := lenS z
  unfold ce__law_one
  refine w_cons ?_
  walk_at "y1"
  simp only [seqU]
  intro D hD
  refine lc_signsF (p := fun c => decide (c ∈ lettersC)) _ (by rw [← ez]; exact hs) (fun c _ l K L h1 h2 => ?_) ?_
  · show if decide (c ∈ lettersC) = true then K (.str ⟨#[c]⟩) (put G D (.lst l)) else L (put G D (.lst l))
    split
    · rename_i h; exact h1 h
    · rename_i h; exact h2 (by simpa using h)
  refine w_go (w_cons ?_)
  walk_at "y1"
  refine ⟨rfl, z, rfl, by omega, ok, w_go (w_cons ?_)⟩
  walk_at "y1"
  refine ⟨rfl, .str z, .str, rfl, rfl, fun y e => by cases e; omega, w_go (w_cons ?_)⟩
  rw [show nuU (U.str z) = optI (numC z.cps.toList) from rfl]
  have tail : ∀ s2 s3 s4 s5, wpSs gm E ir__law_one_4 (DF Q) [some (.str z), some (.ref D), s2, s3, s4, s5] (put G D (.lst ((z.cps.toList.filter fun c => decide (c ∈ lettersC)).map fun c => .str ⟨#[c]⟩))) := by
    intro s2 s3 s4 s5
    have fin : ∀ b : Bool, nameC z.cps.toList = (b && !decide (z.cps.toList ∈ ownC)) → wpSs gm E ir__law_one_5 (DF Q) [some (.str z), some (.ref D), s2, s3, some (.bl b), s5] (put G D (.lst ((z.cps.toList.filter fun c => decide (c ∈ lettersC)).map fun c => .str ⟨#[c]⟩))) := by
      intro b hb
      refine w_cons ?_
      walk_at "y1"
      refine ⟨rfl, .str z, .str, rfl, rfl, fun y e => by cases e; omega, ?_⟩
      rw [show nmU (U.str z) = nameC z.cps.toList from rfl, hb]
      cases b with
      | false =>
        simp only [Bool.false_eq_true, if_false, eqU, scU, if_true, eqSc, Bool.false_and, decide_true]
        exact ⟨G, Sub.put hD, q⟩
      | true =>
        simp only [if_true, Bool.true_and]
        refine ⟨by decide, fun p np => ?_⟩
        simp only [inU, rdL, lsG_put, fltU, List.all_cons, List.all_nil, own_in, true_and, Bool.and_true, Bool.true_and, if_true, eqU, scU, eqSc, Bool.false_eq_true, if_false, decide_true]
        exact ⟨G, (Sub.put hD).trans (Sub.put np), q⟩
    refine w_cons ?_
    walk_at "y1"
    simp only [lenU, rdL, lsG_put, List.length_map, hs, true_and, eqU, scU, eqSc, if_true, Bool.false_eq_true, if_false]
    have nm := name_small z.cps.toList
    rw [← ez] at nm
    by_cases e1 : (z.cps.toList.filter fun c => decide (c ∈ lettersC)).length = z.length
    · have e1' : ((z.cps.toList.filter fun c => decide (c ∈ lettersC)).length : Int) = (z.length : Int) := by rw [e1]
      simp only [e1', decide_true, if_true]
      simp only [e1, decide_true, Bool.true_and] at nm
      by_cases e2 : 1 ≤ z.length
      · have e2' : (1 : Int) ≤ (z.length : Int) := by omega
        simp only [e2', decide_true, if_true]
        simp only [e2, decide_true, Bool.true_and] at nm
        have e3 : decide ((z.length : Int) ≤ 8) = decide (z.length ≤ 8) := decide_eq_decide.mpr (by omega)
        rw [e3]
        exact w_go (fin _ nm)
      · have e2' : ¬ (1 : Int) ≤ (z.length : Int) := by omega
        simp only [e2', decide_false, Bool.false_eq_true, if_false]
        simp only [e2, decide_false, Bool.false_and] at nm
        exact w_go (fin _ nm)
    · have e1' : ¬ ((z.cps.toList.filter fun c => decide (c ∈ lettersC)).length : Int) = (z.length : Int) := by omega
      simp only [e1', decide_false, Bool.false_eq_true, if_false]
      simp only [e1, decide_false, Bool.false_and] at nm
      exact w_go (fin _ nm)
  generalize numC z.cps.toList = o
  cases o with
  | none =>
    walk_at "y1"
    simp only [optI, tyU, BT.sub, eqU, scU, eqSc, isU, if_true, if_false, Bool.false_eq_true, decide_true, decide_false, Bool.not_true, Bool.not_false]
    exact w_go (tail _ _ _ _)
  | some i =>
    walk_at "y1"
    simp only [optI, tyU, BT.sub, eqU, scU, eqSc, isU, if_true, if_false, Bool.false_eq_true, decide_true, decide_false, Bool.not_true, Bool.not_false]
    exact w_go (tail _ _ _ _)
/-! ### a row -/
theorem joinL_mem {s : List Nat} {c : Nat} : ∀ {ps : List (List Nat)}, c ∈ TL.joinL s ps → c ∈ s ∨ ∃ p ∈ ps, c ∈ p
  | [], h => by cases h
  | [p], h => .inr ⟨p, List.mem_singleton.mpr rfl, h⟩
  | p :: q :: r, h => by
    have h : c ∈ p ++ (s ++ TL.joinL s (q :: r)) := h
    rw [List.mem_append, List.mem_append] at h
    rcases h with h | h | h
    · exact .inr ⟨p, List.mem_cons_self, h⟩
    · exact .inl h
    · rcases joinL_mem h with h | ⟨x, hx, hc⟩
      · exact .inl h
      · exact .inr ⟨x, List.mem_cons_of_mem _ hx, hc⟩
theorem mem_joinL {s : List Nat} {c : Nat} {p : List Nat} (hc : c ∈ p) : ∀ {ps : List (List Nat)}, p ∈ ps → c ∈ TL.joinL s ps
  | [], h => by cases h
  | [x], h => by
    have e : p = x := by simpa using h
    subst e
    exact hc
  | x :: y :: r, h => by
    show c ∈ x ++ (s ++ TL.joinL s (y :: r))
    rw [List.mem_append, List.mem_append]
    rcases List.mem_cons.mp h with e | h
    · subst e; exact .inl hc
    · exact .inr (.inr (mem_joinL hc h))
theorem okS_split {z : Str} (h : okS z) : ∀ w ∈ wdC z, okS w := fun w hw c hc => by
  refine h c ?_
  have e : z.cps.toList = TL.joinL [32] ((wdC z).map TL.tl) := by
    have := PySem.StrLaws.join_split z (S [32])
    have h2 := congrArg TL.tl this
    rw [TL.tl_join] at h2
    exact h2.symm
  rw [e]
  exact mem_joinL hc (List.mem_map.mpr ⟨w, hw, rfl⟩)
theorem okS_join {ws : List Str} (h : GoodW ws) : okS (Txt.join (S [32]) ws) := fun c hc => by
  have e : (Txt.join (S [32]) ws).cps.toList = TL.joinL [32] (ws.map TL.tl) := by
    rw [TL.join_eq]
    exact TL.tl_join _ _
  rw [e] at hc
  rcases joinL_mem hc with h1 | ⟨p, hp, h1⟩
  · have : c = 32 := by simpa using h1
    omega
  · obtain ⟨w, hw, rfl⟩ := List.mem_map.mp hp
    exact (h w hw).2.2.1 c h1
theorem len_sum {ws : List Str} (h : GoodW ws) : (ws.map (·.length)).sum ≤ 20 * ws.length := by
  induction ws with
  | nil => exact Nat.zero_le _
  | cons w ws ih =>
    have h1 := (h w List.mem_cons_self).2.2.2
    have h2 := ih fun x hx => h x (List.mem_cons_of_mem _ hx)
    rw [List.map_cons, List.sum_cons, List.length_cons]
    omega
theorem split_row {ws : List Str} (hne : ws ≠ []) (h : GoodW ws) : wdC (Txt.join (S [32]) ws) = ws := TL.split_join (s := 32) (S := []) rfl (by decide +kernel) hne fun p hp => (h p hp).2.1
theorem app_len (a b : Str) : (a ++ b).length = a.length + b.length := by
  rw [TL.len_tl, TL.len_tl, TL.len_tl, TL.tl_append, List.length_append]
theorem okS_app {a b : Str} (ha : okS a) (hb : okS b) : okS (a ++ b) := fun c hc => by
  have e : (a ++ b).cps.toList = a.cps.toList ++ b.cps.toList := TL.tl_append a b
  rw [e, List.mem_append] at hc
  rcases hc with h | h
  · exact ha c h
  · exact hb c h
theorem okS_cut {z : Str} (h : okS z) (lo hi : Option Int) : okS (cutS z lo hi) := fun c hc => by
  refine h c ?_
  have hc : c ∈ (z.cps.toList.drop (HT.sIx z.length 0 lo)).take (HT.sIx z.length z.length hi - HT.sIx z.length 0 lo) := hc
  exact List.mem_of_mem_drop (List.mem_of_mem_take hc)
theorem w_row {E : XS} {us : List U} {G : Gp} {Q : UK} {X : XU} (h : sp_row us G Q X) : wpSs gm E ir__law_row (DF Q) (startU ce__law_row.N us) G := by
  obtain ⟨a, ws, n, rfl, ha, hne, hlen, gw, hn, q⟩ := h
  have hsum := len_sum gw
  have okW : ∀ w ∈ ws, okS w := fun w hw => (gw w hw).2.2.1
  have okR := okS_join gw
  have hsp := split_row hne gw
  have hR : (Txt.join (S [32]) ws).length ≤ 5000 := by
    have h1 := PySem.StrLaws.join_length_le (S [32]) ws
    rw [← TL.join_eq] at h1
    have h2 : (S [32]).length = 1 := rfl
    rw [h2] at h1
    omega
  have hE : hasE (Txt.join (S [32]) ws) = false := by
    unfold hasE
    rw [hsp, List.any_eq_false]
    intro w hw e
    have e' : w = S [] := beq_iff_eq.mp e
    exact (gw w hw).1 (by rw [e'])
  unfold ce__law_row
  refine w_cons ?_
  walk_at "y1"
  simp only [tmU, bmU, true_and, rdL, ha, lsG]
  rw [show strsU (ws.map U.str) = some ws from (strsU_map id ws).trans (by rw [List.map_id])]
  refine ⟨by rw [show (S [32]).length = 1 from rfl]; omega, ?_⟩
  generalize Txt.join (S [32]) ws = R at *
  have hRs : R.length ≤ sizeLine := Nat.le_trans hR (by decide)
  refine w_go (w_cons ?_)
  walk_at "y1"
  refine ⟨by decide, by decide, ?_⟩
  refine loop_inv _ (fun _ σ G' => ∃ s3 s4, σ = [some (.ref a), some (.int n), some (.str R), s3, s4, none, none] ∧ G' = G) ⟨none, none, rfl, rfl⟩ (fun _ _ _ _ _ => trivial) (fun i x σ G' hx hP nx hnx => ?_) (fun σ G' hP => ?_)
  · obtain ⟨s3, s4, rfl, rfl⟩ := hP
    simp only [gU, List.set_cons_succ, List.set_cons_zero]
    refine w_cons ?_
    walk_at "y1"
    refine ⟨rfl, .str R, .str, rfl, rfl, fun y e => by cases e; omega, fun z => absurd rfl z, fun y e => ?_⟩
    cases e
    refine ⟨fun h => (by rw [hE] at h; cases h), fun _ p np => w_go (w_cons ?_)⟩
    have hap : a ≠ p := ne_put ha np
    walk_at "y1"
    simp only [tyU, put_same, BT.sub, decide_true, Bool.not_true, Bool.false_eq_true, if_false]
    rw [hsp]
    refine eq_strs (as := ws) (bs := ws) (by rw [put_same]; rfl) (by rw [put_ne hap, ha]; rfl) okW okW ?_
    simp only [decide_true, if_true, Bool.not_true, Bool.false_eq_true, if_false]
    refine w_go (w_cons ?_)
    walk_at "y1"
    simp only [tmU, bmU, put_same, lsG, Option.isSome_some, true_and]
    refine ⟨by rw [List.length_map]; exact Nat.lt_of_le_of_lt hlen (by decide), ⟨G', ?_, hnx _ _ ⟨_, _, rfl, rfl⟩⟩⟩
    rw [put_put]
    exact Sub.put np
  · obtain ⟨s3, s4, rfl, rfl⟩ := hP
    refine w_go (w_cons ?_)
    walk_at "y1"
    simp only [lenU, addU]
    refine ⟨hRs, by omega, w_go (w_cons ?_)⟩
    generalize n % ((R.length : Int) + 1) = k
    walk_at "y1"
    simp only [slcU, addU]
    have c1 := cutS_length R none (some k)
    have c2 := cutS_length R (some k) none
    have h1 : (S [32]).length = 1 := rfl
    have b1 : (cutS R none (some k)).length + (S [32]).length ≤ sizeLine := Nat.le_trans (show _ ≤ 5001 by omega) (by decide)
    have hV : (cutS R none (some k) ++ S [32] ++ cutS R (some k) none).length ≤ 10001 := by rw [app_len, app_len]; omega
    have b2 : (cutS R none (some k) ++ S [32]).length + (cutS R (some k) none).length ≤ sizeLine := by rw [app_len]; exact Nat.le_trans (show _ ≤ 10001 by omega) (by decide)
    have okV : okS (cutS R none (some k) ++ S [32] ++ cutS R (some k) none) := okS_app (okS_app (okS_cut okR _ _) (fun c hc => by
      have : c = 32 := by simpa using hc
      omega)) (okS_cut okR _ _)
    refine ⟨hRs, b1, hRs, b2, ?_⟩
    simp only [tmU, bmU, true_and]
    refine ⟨rfl, Nat.le_trans (Nat.add_le_add_right hV 2) (by decide), fun p np => w_go (w_cons ?_)⟩
    walk_at "y1"
    simp only [slcU, addU]
    refine ⟨hRs, b1, hRs, b2, ?_⟩
    generalize cutS R none (some k) ++ S [32] ++ cutS R (some k) none = V at *
    refine ⟨rfl, .str V, .str, rfl, rfl, fun y e => by cases e; omega, fun z => absurd rfl z, fun y e => ?_⟩
    cases e
    have okP := okS_split okV
    have ei : inF (.str (S [])) ((Txt.split V (S [32])).map U.str) = hasE V := in_strs _ _
    refine ⟨fun hh => ?_, fun hh p' np' => ?_⟩
    · simp only [inU, rdL, lsG_put, fltU, true_and, Bool.false_eq_true, if_false, ei, hh]
      refine ⟨flt_strs _, ?_⟩
      simp only [if_true, eqU, scU, eqSc, Bool.false_eq_true, if_false]
      exact ⟨G', Sub.put np, q⟩
    · have hpp : p ≠ p' := fun e => by subst e; rw [put_same] at np'; cases np'
      simp only [inU, rdL, put_ne hpp, put_same, lsG, fltU, true_and, Bool.false_eq_true, if_false, ei, hh]
      refine ⟨flt_strs _, ?_⟩
      refine eq_strs (as := wdC V) (bs := wdC V) (by rw [put_same]; rfl) (by rw [put_ne hpp, put_same]; rfl) okP okP ?_
      simp only [decide_true, Bool.false_eq_true, if_false]
      exact ⟨G', (Sub.put np).trans (Sub.put np'), q⟩
end Y

namespace Y
open PySem PySem.Spec PyProof.Rows L2
local macro_rules | `(tactic| walk_at "y1") => `(tactic| simp only [wpS, wpE, wpEs, wpO, wpC, wpI, biU, binU, cmpU, intU, isB, partU, gU, gsU, startU, DF, List.map_cons, List.map_nil, List.length_cons, List.length_nil, List.cons_append, List.nil_append, List.replicate, List.getElem?_cons_zero, List.getElem?_cons_succ, List.set_cons_zero, List.set_cons_succ, true_and, and_true, if_true, Bool.false_eq_true, if_false, Nat.reduceAdd, Nat.reduceSub, w_nil])
/-! ### texts of numbers -/
theorem log_small {n : Nat} (h : n < 2 ^ 64) : n.log2 < 1920 := by
  by_cases e : n = 0
  · subst e; decide
  · exact Nat.lt_of_lt_of_le ((Nat.log2_lt e).mpr h) (by decide)
theorem num_str {i : Int} (h0 : 0 ≤ i) (h1 : i < 10 ^ 11) : okS (toString i : String) ∧ ((toString i : String) : Str).length ≤ 11 ∧ 32 ∉ ((toString i : String) : Str).cps.toList ∧ ((toString i : String) : Str).cps.toList ≠ [] := by
  obtain ⟨n, rfl⟩ := Int.eq_ofNat_of_zero_le h0
  have e : ((toString ((n : Nat) : Int) : String) : Str).cps.toList = TL.numL n := TL.tl_num n
  have hn : n < 10 ^ 11 := by omega
  refine ⟨fun c hc => ?_, ?_, ?_, ?_⟩
  · rw [e] at hc
    have := TL.numL_digits n c hc
    omega
  · rw [lenS, e]
    exact TL.numL_len (by decide) hn
  · rw [e]
    exact TL.numL_free (.inl (by decide))
  · rw [e]
    exact TL.numL_ne n
theorem okS_word {z : Str} (h : okS z) (n : Int) : okS (S (wordL n z.cps.toList)) := fun c hc => by
  have hc : c ∈ wordL n z.cps.toList := hc
  unfold wordL at hc
  obtain ⟨k, _, rfl⟩ := List.mem_map.mp hc
  rw [List.getD_eq_getElem?_getD]
  cases e : z.cps.toList[(mixI n (k : Nat) % (z.cps.toList.length : Int)).toNat]? with
  | none => decide
  | some d => exact h d (List.mem_of_getElem? e)
theorem word_mem {z : Str} {n : Int} {c : Nat} (h : c ∈ wordL n z.cps.toList) (h1 : 1 ≤ z.length) : c ∈ z.cps.toList := by
  unfold wordL at h
  obtain ⟨k, _, rfl⟩ := List.mem_map.mp h
  have ez := lenS z
  have hm := Int.emod_nonneg (mixI n (k : Nat)) (show ((z.cps.toList.length : Nat) : Int) ≠ 0 by omega)
  have hm2 := Int.emod_lt_of_pos (mixI n (k : Nat)) (show (0 : Int) < ((z.cps.toList.length : Nat) : Int) by omega)
  have hlt : (mixI n (k : Nat) % (z.cps.toList.length : Int)).toNat < z.cps.toList.length := by omega
  rw [List.getD_eq_getElem?_getD, List.getElem?_eq_getElem hlt]
  exact List.getElem_mem hlt
theorem word_len (n : Int) (cs : List Nat) : (S (wordL n cs)).length ≤ 13 := by
  rw [lenC]
  unfold wordL
  rw [List.length_map, List.length_range]
  have hn := Int.emod_nonneg n (show (13 : Int) ≠ 0 by decide)
  have hn2 := Int.emod_lt_of_pos n (show (0 : Int) < 13 by decide)
  omega
theorem at_some {α : Type} {xs : List α} {i : Int} (h0 : 0 ≤ i) (h1 : i < xs.length) : ∃ x ∈ xs, atI xs i = some x := by
  obtain ⟨n, rfl⟩ := Int.eq_ofNat_of_zero_le h0
  have hn : n < xs.length := by omega
  exact ⟨xs[n], List.getElem_mem hn, atI_nat (List.getElem?_eq_getElem hn)⟩
theorem one_call {E : XS} {z : Str} {G : Gp} {Q : UK} {X : XU} (h : z.length ≤ 500) (ok : okS z) (q : Q (.bl true) G) : (1 = gm.ar f__law_one) ∧ gm.fn f__law_one [.str z] G Q X := ⟨rfl, z, rfl, h, ok, q⟩
/-- the tail behind an odd thing -/
theorem t_odd {E : XS} {D : EU} {G : Gp} {s0 s1 s3 s4 s5 s6 s8 s9 : Option U} {c : Int} {x : U} {t : BT} (ht : tyU G x = some t) (h1 : t ≠ .str) (h2 : nuU x = .non) (h3 : nmU x = false)
    (h4 : inF (.int (c % 8)) [.int 2, .int 7] = decide (t = .int)) (h5 : amU x (-2) 7 = decide (t = .int)) (h6 : amU x (-1) 6 = false) (q : ∀ s8' s9', ∃ G2, Sub G2 G ∧ D.nx [s0, s1, some (.int c), s3, s4, s5, s6, some x, s8', s9'] G2) :
    wpSs gm E ir_law_9 D [s0, s1, some (.int c), s3, s4, s5, s6, some x, s8, s9] G := by
  have ns : ∀ z, x = .str z → False := fun z e => by subst e; cases ht; exact h1 rfl
  refine w_cons ?_
  walk_at "y1"
  refine ⟨rfl, x, t, rfl, ht, fun z e => (ns z e).elim, ?_⟩
  rw [h2]
  simp only [isU, Bool.false_eq_true, if_false, Bool.not_true]
  refine ⟨rfl, x, t, rfl, ht, fun z e => (ns z e).elim, fun _ => ?_, fun z e => (ns z e).elim⟩
  simp only [isU, Bool.false_eq_true, if_false, Bool.not_true]
  refine ⟨rfl, x, t, rfl, ht, fun z e => (ns z e).elim, ?_⟩
  rw [h3]
  simp only [decide_true, if_true, Bool.not_true, Bool.false_eq_true, if_false]
  refine w_go (w_cons ?_)
  walk_at "y1"
  simp only [inU, rdL, fltU, List.all_cons, List.all_nil, Bool.and_true, Bool.true_and, true_and, h4, Bool.false_eq_true, if_false]
  refine ⟨by decide, by decide, w_go (w_cons ?_)⟩
  walk_at "y1"
  refine ⟨rfl, x, t, rfl, ht, ?_⟩
  simp only [eqU, scU, eqSc, if_true, decide_true, Bool.not_true, Bool.false_eq_true, if_false]
  refine ⟨rfl, x, t, -2, 7, rfl, ht, ?_⟩
  rw [h5]
  simp only [eqU, scU, eqSc, if_true, decide_true, Bool.not_true, Bool.false_eq_true, if_false]
  refine ⟨rfl, x, t, -1, 6, rfl, ht, ?_⟩
  rw [h6]
  simp only [isU, decide_true, if_true, Bool.not_true, Bool.false_eq_true, if_false]
  refine w_go (w_cons ?_)
  walk_at "y1"
  refine ⟨⟨by decide, by decide, by decide⟩, by decide, w_go (w_cons ?_)⟩
  generalize c % 10 ^ Int.toNat 60 = b
  walk_at "y1"
  simp only [addU]
  refine ⟨rfl, .int b, .int, b - 1, b, rfl, rfl, ?_⟩
  have a1 : amU (.int b) (b - 1) b = true := by
    unfold amU
    simp only [decide_eq_true (show b - 1 ≤ b by omega), decide_eq_true (show b ≤ b by omega), Bool.and_true]
  have a2 : amU (.int b) (b + 1) (b + 2) = false := by
    unfold amU
    simp only [decide_eq_false (show ¬ b + 1 ≤ b by omega), Bool.false_and]
  rw [a1]
  simp only [isU, decide_true, if_true, Bool.not_true, Bool.false_eq_true, if_false]
  refine ⟨rfl, .int b, .int, b + 1, b + 2, rfl, rfl, ?_⟩
  rw [a2]
  simp only [isU, decide_true, if_true, Bool.not_true, Bool.false_eq_true, if_false]
  exact q _ _
end Y

namespace Y
open PySem PySem.Spec PyProof.Rows L2
local macro_rules | `(tactic| walk_at "y1") => `(tactic| simp only [wpS, wpE, wpEs, wpO, wpC, wpI, biU, binU, cmpU, intU, isB, partU, gU, gsU, startU, DF, List.map_cons, List.map_nil, List.length_cons, List.length_nil, List.cons_append, List.nil_append, List.replicate, List.getElem?_cons_zero, List.getElem?_cons_succ, List.set_cons_zero, List.set_cons_succ, true_and, and_true, if_true, Bool.false_eq_true, if_false, Nat.reduceAdd, Nat.reduceSub, w_nil])
/-- the tail from the odd thing on -/
theorem t_law_8 {E : XS} {D : EU} {G : Gp} {s0 s1 s3 s4 s5 s6 s7 s8 s9 : Option U} {c : Int} (q : ∀ G', Sub G G' → ∀ s7' s8' s9', ∃ G2, Sub G2 G' ∧ D.nx [s0, s1, some (.int c), s3, s4, s5, s6, s7', s8', s9'] G2) :
    wpSs gm E ir_law_8 D [s0, s1, some (.int c), s3, s4, s5, s6, s7, s8, s9] G := by
  refine w_cons ?_
  walk_at "y1"
  refine ⟨by decide, fun p1 n1 => ⟨by decide, fun p2 n2 p3 n3 => ⟨by decide, by decide, fun p4 n4 => ?_⟩⟩⟩
  refine ⟨by decide, ?_⟩
  have s1 : Sub G (put G p1 (.lst [])) := Sub.put n1
  have s2 := s1.trans (Sub.put (o := .lst [.str (S [49])]) n2)
  have s3' := s2.trans (Sub.put (o := .dic []) n3)
  have hG : ∀ o, Sub G (put (put (put (put G p1 (.lst [])) p2 (.lst [.str (S [49])])) p3 (.dic [])) p4 o) := fun o => s3'.trans (Sub.put n4)
  have k3 : ∀ o, put (put (put (put G p1 (.lst [])) p2 (.lst [.str (S [49])])) p3 (.dic [])) p4 o p3 = some (.dic []) := fun o => by
    refine Sub.put n4 _ _ ?_
    rw [put_same]
  have k2 : ∀ o, put (put (put (put G p1 (.lst [])) p2 (.lst [.str (S [49])])) p3 (.dic [])) p4 o p2 = some (.lst [.str (S [49])]) := fun o => by
    refine Sub.put n4 _ _ (Sub.put n3 _ _ ?_)
    rw [put_same]
  have k1 : ∀ o, put (put (put (put G p1 (.lst [])) p2 (.lst [.str (S [49])])) p3 (.dic [])) p4 o p1 = some (.lst []) := fun o => by
    refine Sub.put n4 _ _ (Sub.put n3 _ _ (Sub.put n2 _ _ ?_))
    rw [put_same]
  simp only [ixU, rdL, lsG_put]
  have hc := Int.emod_nonneg c (show (8 : Int) ≠ 0 by decide)
  have hc2 := Int.emod_lt_of_pos c (show (0 : Int) < 8 by decide)
  have h8 : c % 8 = 0 ∨ c % 8 = 1 ∨ c % 8 = 2 ∨ c % 8 = 3 ∨ c % 8 = 4 ∨ c % 8 = 5 ∨ c % 8 = 6 ∨ c % 8 = 7 := by omega
  rcases h8 with h | h | h | h | h | h | h | h
  · rw [h]
    exact w_go (t_odd (t := .non) rfl (by decide) rfl rfl (by rw [h]; decide) rfl rfl fun _ _ => q _ (hG _) _ _ _)
  · rw [h]
    exact w_go (t_odd (t := .bool) rfl (by decide) rfl rfl (by rw [h]; decide) rfl rfl fun _ _ => q _ (hG _) _ _ _)
  · rw [h]
    exact w_go (t_odd (t := .int) rfl (by decide) rfl rfl (by rw [h]; decide) (by decide) (by decide) fun _ _ => q _ (hG _) _ _ _)
  · rw [h]
    exact w_go (t_odd (t := .lst) (by show tyU _ (.ref p1) = _; simp only [tyU, k1]) (by decide) rfl rfl (by rw [h]; decide) rfl rfl fun _ _ => q _ (hG _) _ _ _)
  · rw [h]
    exact w_go (t_odd (t := .lst) (by show tyU _ (.ref p2) = _; simp only [tyU, k2]) (by decide) rfl rfl (by rw [h]; decide) rfl rfl fun _ _ => q _ (hG _) _ _ _)
  · rw [h]
    exact w_go (t_odd (t := .dic) (by show tyU _ (.ref p3) = _; simp only [tyU, k3]) (by decide) rfl rfl (by rw [h]; decide) rfl rfl fun _ _ => q _ (hG _) _ _ _)
  · rw [h]
    exact w_go (t_odd (t := .tup) rfl (by decide) rfl rfl (by rw [h]; decide) rfl rfl fun _ _ => q _ (hG _) _ _ _)
  · rw [h]
    exact w_go (t_odd (t := .int) rfl (by decide) rfl rfl (by rw [h]; decide) (by decide) (by decide) fun _ _ => q _ (hG _) _ _ _)
/-- two words more -/
theorem t_law_7 {E : XS} {D : EU} {G : Gp} {s0 s4 s5 s6 s7 s8 s9 : Option U} {c n : Int} {w : Addr} {ws : List Str} (hn : 0 ≤ n) (hw : G w = none) (hz : ws.length ≤ 1000) (gw : GoodW ws)
    (q : ∀ (w' : Addr) (ws' : List Str), G w' = none → ws'.length = ws.length + 2 → GoodW ws' → ∀ s7' s8' s9', D.nx [s0, some (.ref w'), some (.int c), some (.int n), s4, s5, s6, s7', s8', s9'] (put G w' (.lst (ws'.map U.str)))) :
    wpSs gm E ir_law_7 D [s0, some (.ref w), some (.int c), some (.int n), s4, s5, s6, s7, s8, s9] (put G w (.lst (ws.map U.str))) := by
  have hm := Int.emod_nonneg n (show (99 : Int) ≠ 0 by decide)
  have hm2 := Int.emod_lt_of_pos n (show (0 : Int) < 99 by decide)
  obtain ⟨o1, o2, o3, o4⟩ := num_str hm (by omega)
  have okB : okS (S [98, 57, 43, 10]) := fun d hd => by
    have : d = 98 ∨ d = 57 ∨ d = 43 ∨ d = 10 := by simpa using hd
    omega
  have wl := word_len n [98, 57, 43, 10]
  refine w_cons ?_
  walk_at "y1"
  refine ⟨rfl, n, S [98, 57, 43, 10], rfl, by decide, by decide, ?_⟩
  simp only [addU]
  refine ⟨Nat.le_trans (Nat.add_le_add_left wl _) (by decide), by decide, log_small (by omega), by decide, fun p np => ?_⟩
  have nwp : w ≠ p := fun e => by subst e; rw [put_same] at np; cases np
  have hp : G p = none := by rw [put_ne (Ne.symm nwp)] at np; exact np
  simp only [put_ne nwp, put_same]
  refine ⟨by rw [List.length_map]; exact Nat.le_trans (Nat.add_le_add_right hz 2) (by decide), fun p' np' => ?_⟩
  have npp : p ≠ p' := fun e => by subst e; rw [put_same] at np'; cases np'
  have nwp' : w ≠ p' := fun e => by subst e; rw [put_ne nwp, put_same] at np'; cases np'
  have hp' : G p' = none := by rw [put_ne (Ne.symm npp), put_ne (Ne.symm nwp')] at np'; exact np'
  refine ⟨put G p' (.lst ((ws ++ [S [97] ++ S (wordL n [98, 57, 43, 10]), ((toString (n % 99) : String) : Str)]).map U.str)), ?_, ?_⟩
  · intro x o hx
    by_cases e : x = p'
    · subst e
      rw [put_same] at hx ⊢
      rw [← hx, List.map_append]
      rfl
    · rw [put_ne e] at hx ⊢
      rw [put_ne, put_ne]
      · exact hx
      · intro z; subst z; rw [hw] at hx; cases hx
      · intro z; subst z; rw [hp] at hx; cases hx
  · refine t_law_8 fun G' sG s7' s8' s9' => ⟨_, sG, q p' _ hp' (by rw [List.length_append]; rfl) ?_ s7' s8' s9'⟩
    intro y hy
    rw [List.mem_append] at hy
    rcases hy with hy | hy
    · exact gw y hy
    · have hy : y = S [97] ++ S (wordL n [98, 57, 43, 10]) ∨ y = ((toString (n % 99) : String) : Str) := by simpa using hy
      rcases hy with rfl | rfl
      · have e : (S [97] ++ S (wordL n [98, 57, 43, 10])).cps.toList = 97 :: wordL n [98, 57, 43, 10] := TL.tl_append _ _
        refine ⟨by rw [e]; exact List.cons_ne_nil _ _, ?_, okS_app (fun d hd => by
          have : d = 97 := by simpa using hd
          omega) (okS_word okB n), by rw [app_len, show (S [97]).length = 1 from rfl]; omega⟩
        rw [e]
        intro hd
        rcases List.mem_cons.mp hd with z | z
        · exact absurd z (by decide)
        · have := word_mem (z := S [98, 57, 43, 10]) z (by decide)
          have : (32 : Nat) = 98 ∨ (32 : Nat) = 57 ∨ (32 : Nat) = 43 ∨ (32 : Nat) = 10 := by simpa using this
          omega
      · exact ⟨o4, o3, o1, by omega⟩
end Y

namespace Y
open PySem PySem.Spec PyProof.Rows L2
local macro_rules | `(tactic| walk_at "y1") => `(tactic| simp only [wpS, wpE, wpEs, wpO, wpC, wpI, biU, binU, cmpU, intU, isB, partU, gU, gsU, startU, DF, List.map_cons, List.map_nil, List.length_cons, List.length_nil, List.cons_append, List.nil_append, List.replicate, List.getElem?_cons_zero, List.getElem?_cons_succ, List.set_cons_zero, List.set_cons_succ, true_and, and_true, if_true, Bool.false_eq_true, if_false, Nat.reduceAdd, Nat.reduceSub, w_nil])
/-- what a turn wants behind it -/
abbrev DX (D : EU) : EU := { nx := fun σ' G' => ∃ G2, Sub G2 G' ∧ D.nx σ' G2, rt := D.rt, bk := D.bk, ct := D.ct }
def TurnQ (D : EU) (G : Gp) (s0 : Option U) (c : Int) (ws : List Str) : Prop := ∀ (w' : Addr) (ws' : List Str), G w' = none → ws'.length = ws.length + 2 → GoodW ws' → ∀ s3 s4 s5 s6 s7' s8' s9', D.nx [s0, some (.ref w'), some (.int c), s3, s4, s5, s6, s7', s8', s9'] (put G w' (.lst (ws'.map U.str)))
theorem t_law_6 {E : XS} {D : EU} {G : Gp} {s0 s4 s5 s7 s8 s9 : Option U} {c n : Int} {w : Addr} {ws : List Str} {o : Str} (hn : 0 ≤ n) (hn2 : n < 2147483647) (ho : okS o) (ho2 : o.length ≤ 4) (hw : G w = none) (hz : ws.length ≤ 1000) (gw : GoodW ws) (q : TurnQ D G s0 c ws) :
    wpSs gm E ir_law_6 D [s0, some (.ref w), some (.int c), some (.int n), s4, s5, some (.str o), s7, s8, s9] (put G w (.lst (ws.map U.str))) := by
  have hm := Int.emod_nonneg n (show (50 : Int) ≠ 0 by decide)
  have hm2 := Int.emod_lt_of_pos n (show (0 : Int) < 50 by decide)
  have hk := Int.emod_nonneg n (show (100 : Int) ≠ 0 by decide)
  have hk2 := Int.emod_lt_of_pos n (show (0 : Int) < 100 by decide)
  obtain ⟨a1, a2, _, _⟩ := num_str hn (by omega)
  obtain ⟨b1, b2, _, _⟩ := num_str hm (by omega)
  obtain ⟨c1, c2, _, _⟩ := num_str hk (by omega)
  obtain ⟨d1, d2, _, _⟩ := num_str (show 0 ≤ n * 9 by omega) (by omega)
  have ok1 : ∀ d : Nat, d < 1114112 → okS (S [d]) := fun d hd x hx => by
    have : x = d := by simpa using hx
    omega
  have l1 : ∀ d : Nat, (S [d]).length = 1 := fun d => rfl
  refine w_cons ?_
  walk_at "y1"
  simp only [addU, mulU]
  refine ⟨log_small (by omega), by decide, log_small (by omega), by rw [l1]; exact Nat.le_trans (Nat.add_le_add_left b2 1) (by decide), by rw [l1]; exact Nat.le_trans (Nat.add_le_add_right ho2 1) (by decide), by decide, log_small (by omega), by rw [l1]; exact Nat.le_trans (Nat.add_le_add_left c2 1) (by decide), .inl (.inr ⟨by decide, by decide⟩), log_small (by omega), by decide, fun p np => ?_⟩
  simp only [seqU, lsG_put]
  have nwp : w ≠ p := fun e => by subst e; rw [put_same] at np; cases np
  refine loop_inv _ (fun _ σ G' => ∃ s5, σ = [s0, some (.ref w), some (.int c), some (.int n), s4, s5, some (.str o), s7, s8, s9] ∧ G' = put (put G w (.lst (ws.map U.str))) p (.lst [.str (toString n : String), .str (S [45] ++ (toString (n % 50) : String)), .str o, .str (o ++ S [115]), .str (S [48] ++ (toString (n % 100) : String)), .str (toString (n * 9) : String)])) ⟨s5, rfl, rfl⟩ (fun i σ G' _ hP => ?_) (fun i x σ G' hx hP nx hnx => ?_) (fun σ G' hP => ?_)
  · obtain ⟨_, _, rfl⟩ := hP
    exact lsG_put
  · obtain ⟨s5', rfl, rfl⟩ := hP
    have hx' := List.mem_of_getElem? hx
    have hz : ∃ z : Str, x = .str z ∧ z.length ≤ 500 ∧ okS z := by
      simp only [List.mem_cons, List.not_mem_nil, or_false] at hx'
      rcases hx' with rfl | rfl | rfl | rfl | rfl | rfl
      · exact ⟨_, rfl, by omega, a1⟩
      · exact ⟨_, rfl, by rw [app_len, l1]; omega, okS_app (ok1 _ (by decide)) b1⟩
      · exact ⟨_, rfl, by omega, ho⟩
      · exact ⟨_, rfl, by rw [app_len, l1]; omega, okS_app ho (ok1 _ (by decide))⟩
      · exact ⟨_, rfl, by rw [app_len, l1]; omega, okS_app (ok1 _ (by decide)) c1⟩
      · exact ⟨_, rfl, by omega, d1⟩
    obtain ⟨z, rfl, hl, hok⟩ := hz
    simp only [gU, List.set_cons_succ, List.set_cons_zero]
    refine w_cons ?_
    walk_at "y1"
    refine one_call (E := E) hl hok ?_
    simp only [Bool.not_true, Bool.false_eq_true, if_false]
    exact w_go (hnx _ _ ⟨_, rfl, rfl⟩)
  · obtain ⟨s5', rfl, rfl⟩ := hP
    exact ⟨_, Sub.put np, t_law_7 hn hw hz gw fun w' ws' h1 h2 h3 s7' s8' s9' => q w' ws' h1 h2 h3 _ _ _ _ _ _ _⟩
theorem t_law_5 {E : XS} {D : EU} {G : Gp} {s0 s4 s5 s6 s7 s8 s9 : Option U} {c n : Int} {w : Addr} {ws : List Str} (hn : 0 ≤ n) (hn2 : n < 2147483647) (hw : G w = none) (hz : ws.length ≤ 1000) (gw : GoodW ws) (q : TurnQ D G s0 c ws) :
    wpSs gm E ir_law_5 D [s0, some (.ref w), some (.int c), some (.int n), s4, s5, s6, s7, s8, s9] (put G w (.lst (ws.map U.str))) := by
  have hm := Int.emod_nonneg n (show (7 : Int) ≠ 0 by decide)
  have hm2 := Int.emod_lt_of_pos n (show (0 : Int) < 7 by decide)
  refine w_cons ?_
  walk_at "y1"
  refine ⟨by decide, fun p np => ⟨by decide, ?_⟩⟩
  simp only [ixU, rdL, lsG_put]
  obtain ⟨x, hx, ex⟩ := at_some (xs := ownC.map fun a => U.str (S a)) hm (by rw [List.length_map]; exact hm2)
  have ex' : atI [U.str (S [97, 110, 121]), .str (S [110, 111, 110, 101]), .str (S [97, 116]), .str (S [109, 111, 118, 101]), .str (S [98, 111, 120]), .str (S [108, 101, 110, 100]), .str (S [109, 101, 110, 100])] (n % 7) = some x := ex
  rw [ex']
  obtain ⟨l, hl, rfl⟩ := List.mem_map.mp hx
  have hok : okS (S l) ∧ (S l).length ≤ 4 := by
    have key : (ownC.all fun a => decide (a.length ≤ 4) && a.all fun c => decide (c < 1114112)) = true := by decide
    rw [List.all_eq_true] at key
    have k := key l hl
    rw [Bool.and_eq_true, decide_eq_true_eq, List.all_eq_true] at k
    exact ⟨fun c hc => of_decide_eq_true (k.2 c hc), by rw [lenC]; exact k.1⟩
  exact ⟨_, Sub.put np, t_law_6 hn hn2 hok.1 hok.2 hw hz gw q⟩
def signsC : List (List Nat) := [[48, 49, 50, 51, 52, 53, 54, 55, 56, 57], [97, 98, 99, 100, 101, 102, 103, 104, 105, 106, 107, 108, 109, 110, 111, 112, 113, 114, 115, 116, 117, 118, 119, 120, 121, 122], [48, 49, 97], [48, 32, 57, 43, 45, 46, 39], [65, 98, 123, 125, 96, 122, 10]]
theorem t_law_4 {E : XS} {D : EU} {G : Gp} {s0 s4 s5 s6 s7 s8 s9 : Option U} {c n : Int} {w : Addr} {ws : List Str} (hn : 0 ≤ n) (hn2 : n < 2147483647) (hw : G w = none) (hz : ws.length ≤ 1000) (gw : GoodW ws) (q : TurnQ D G s0 c ws) :
    wpSs gm E ir_law_4 D [s0, some (.ref w), some (.int c), some (.int n), s4, s5, s6, s7, s8, s9] (put G w (.lst (ws.map U.str))) := by
  refine w_cons ?_
  walk_at "y1"
  refine ⟨by decide, ?_⟩
  simp only [seqU]
  refine loop_inv _ (fun _ σ G' => ∃ s4 s5, σ = [s0, some (.ref w), some (.int c), some (.int n), s4, s5, s6, s7, s8, s9] ∧ G' = put G w (.lst (ws.map U.str))) ⟨s4, s5, rfl, rfl⟩ (fun _ _ _ _ _ => trivial) (fun i x σ G' hx hP nx hnx => ?_) (fun σ G' hP => ?_)
  · obtain ⟨s4', s5', rfl, rfl⟩ := hP
    have hx' : x ∈ signsC.map fun a => U.str (S a) := List.mem_of_getElem? hx
    obtain ⟨l, hl, rfl⟩ := List.mem_map.mp hx'
    have hok : okS (S l) ∧ 1 ≤ (S l).length ∧ (S l).length ≤ 100 := by
      have key : (signsC.all fun a => decide (1 ≤ a.length) && decide (a.length ≤ 100) && a.all fun c => decide (c < 1114112)) = true := by decide
      rw [List.all_eq_true] at key
      have k := key l hl
      rw [Bool.and_eq_true, Bool.and_eq_true, decide_eq_true_eq, decide_eq_true_eq, List.all_eq_true] at k
      exact ⟨fun c hc => of_decide_eq_true (k.2 c hc), by rw [lenC]; exact k.1⟩
    have wl := word_len n l
    have wo := okS_word hok.1 n
    simp only [gU, List.set_cons_succ, List.set_cons_zero]
    refine w_cons ?_
    walk_at "y1"
    refine ⟨rfl, n, S l, rfl, hok.2.1, hok.2.2, w_go (w_cons ?_)⟩
    walk_at "y1"
    refine one_call (E := E) (by omega) wo ?_
    simp only [Bool.not_true, Bool.false_eq_true, if_false, addU]
    refine ⟨Nat.le_trans (Nat.add_le_add_left wl _) (by decide), ?_⟩
    refine one_call (E := E) (by rw [app_len, show (S [45]).length = 1 from rfl]; omega) (okS_app (fun d hd => by
      have : d = 45 := by simpa using hd
      omega) wo) ?_
    simp only [Bool.not_true, Bool.false_eq_true, if_false]
    exact w_go (hnx _ _ ⟨_, _, rfl, rfl⟩)
  · obtain ⟨s4', s5', rfl, rfl⟩ := hP
    exact w_go (t_law_5 hn hn2 hw hz gw q)
theorem t_law_3 {E : XS} {D : EU} {G G' : Gp} {s0 s3 s4 s5 s6 s7 s8 s9 : Option U} {c : Int} {w : Addr} {ws : List Str} (hS : Sub (put G w (.lst (ws.map U.str))) G') (hw : G w = none) (hz : ws.length ≤ 1000) (gw : GoodW ws) (q : TurnQ D G s0 c ws) :
    wpSs gm E ir_law_3 D [s0, some (.ref w), some (.int c), s3, s4, s5, s6, s7, s8, s9] G' := by
  refine w_cons ?_
  walk_at "y1"
  exact ⟨rfl, c, 1, rfl, by decide, by decide, ⟨_, hS, t_law_4 (mixI_nn c 1).1 (mixI_nn c 1).2 hw hz gw q⟩⟩
/-! ### the law -/
def sp_law : SpU := fun us G Q _ => ∃ ns, us = [.rl ((ns : List Int).map U.int)] ∧ ns.length ≤ 63 ∧ Q (.bl true) G
theorem cut_ints (ns : List Int) (lo hi : Option Int) : ∃ ms : List Int, cutU (ns.map U.int) lo hi = ms.map U.int ∧ ms.length ≤ ns.length := by
  unfold cutU
  rw [← List.map_drop, ← List.map_take]
  refine ⟨_, rfl, ?_⟩
  rw [List.length_take, List.length_drop]
  omega
theorem w_law {E : XS} {us : List U} {G : Gp} {Q : UK} {X : XU} (h : sp_law us G Q X) : wpSs gm E ir_law (DF Q) (startU ce_law.N us) G := by
  obtain ⟨ns, rfl, hl, q⟩ := h
  unfold ce_law
  refine w_cons ?_
  walk_at "y1"
  refine ⟨by decide, fun w nw => ?_⟩
  refine w_go (w_cons ?_)
  walk_at "y1"
  simp only [slcU, lsU]
  intro p1 np1
  have nw1 : w ≠ p1 := fun e => by subst e; rw [put_same] at np1; cases np1
  obtain ⟨ms, hms, hml⟩ := cut_ints ns none (some 63)
  rw [hms]
  simp only [show intsU (ns.map U.int) = some ns from (intsU_map id ns).trans (by rw [List.map_id])]
  refine ⟨by decide, fun p2 np2 => ?_⟩
  have n12 : p1 ≠ p2 := fun e => by subst e; rw [put_same] at np2; cases np2
  have nw2 : w ≠ p2 := fun e => by subst e; rw [put_ne nw1, put_same] at np2; cases np2
  simp only [addU, put_ne n12, put_same]
  refine ⟨by rw [List.length_map]; exact Nat.le_trans (Nat.add_le_add_right (Nat.le_trans hml hl) 1) (by decide), fun L nL => ?_⟩
  have nL1 : p1 ≠ L := fun e => by subst e; rw [put_ne n12, put_same] at nL; cases nL
  have nL2 : p2 ≠ L := fun e => by subst e; rw [put_same] at nL; cases nL
  have nwL : w ≠ L := fun e => by subst e; rw [put_ne nw2, put_ne nw1, put_same] at nL; cases nL
  have gL : G L = none := by rw [put_ne (Ne.symm nL2), put_ne (Ne.symm nL1), put_ne (Ne.symm nwL)] at nL; exact nL
  simp only [seqU, lsG_put]
  have e1 : ms.map U.int ++ [U.int ns.sum] = (ms ++ [ns.sum]).map U.int := by rw [List.map_append]; rfl
  rw [e1]
  have hlen : ((ms ++ [ns.sum]).map U.int).length ≤ 64 := by rw [List.length_map, List.length_append, List.length_singleton]; omega
  have hpos : 1 ≤ ((ms ++ [ns.sum]).map U.int).length := by rw [List.length_map, List.length_append, List.length_singleton]; omega
  have h0 : Sub (put (put G L (.lst ((ms ++ [ns.sum]).map U.int))) w (.lst [])) (put (put (put (put G w (.lst [])) p1 (.lst (ms.map U.int))) p2 (.lst [.int ns.sum])) L (.lst ((ms ++ [ns.sum]).map U.int))) := fun x o hx => by
    by_cases ew : x = w
    · subst ew
      rw [put_same] at hx
      rw [put_ne nwL, put_ne nw2, put_ne nw1, put_same]
      exact hx
    · rw [put_ne ew] at hx
      by_cases eL : x = L
      · subst eL
        rw [put_same] at hx ⊢
        exact hx
      · rw [put_ne eL] at hx ⊢
        rw [put_ne, put_ne, put_ne ew]
        · exact hx
        · intro z; subst z; rw [put_ne (Ne.symm nw1)] at np1; rw [np1] at hx; cases hx
        · intro z; subst z; rw [put_ne (Ne.symm n12), put_ne (Ne.symm nw2)] at np2; rw [np2] at hx; cases hx
  have hints : ∀ x ∈ (ms ++ [ns.sum]).map U.int, ∃ c, x = U.int c := fun x hx => by
    obtain ⟨c, _, rfl⟩ := List.mem_map.mp hx
    exact ⟨c, rfl⟩
  generalize (ms ++ [ns.sum]).map U.int = items at *
  have hwL : put G L (.lst items) w = none := by rw [put_ne nwL]; exact nw
  refine loop_inv items (fun i σ G' => ∃ w ws s2 s3 s4 s5 s6 s7 s8 s9, σ = [some (.rl (ns.map U.int)), some (.ref w), s2, s3, s4, s5, s6, s7, s8, s9] ∧ put G L (.lst items) w = none ∧ Sub (put (put G L (.lst items)) w (.lst ((ws : List Str).map U.str))) G' ∧ ws.length = 2 * i ∧ GoodW ws)
    ⟨w, [], none, none, none, none, none, none, none, none, rfl, hwL, h0, rfl, fun _ h => nomatch h⟩ (fun i σ G' _ hP => ?_) (fun i x σ G' hx hP nx hnx => ?_) (fun σ G' hP => ?_)
  · obtain ⟨w', ws, _, _, _, _, _, _, _, _, _, hw', hS, _, _⟩ := hP
    have : G' L = some (.lst items) := hS L _ (by
      rw [put_ne, put_same]
      intro e
      subst e
      rw [put_same] at hw'
      cases hw')
    rw [this]
    rfl
  · obtain ⟨w', ws, s2, s3, s4, s5, s6, s7, s8, s9, rfl, hw', hS, hwl, gw⟩ := hP
    obtain ⟨c, rfl⟩ := hints x (List.mem_of_getElem? hx)
    have hi : i < items.length := by
      by_cases hi : i < items.length
      · exact hi
      · rw [List.getElem?_eq_none (by omega)] at hx; cases hx
    simp only [gU, List.set_cons_succ, List.set_cons_zero]
    refine t_law_3 hS hw' (by omega) gw fun w2 ws2 h1 h2 h3 t3 t4 t5 t6 t7 t8 t9 => hnx _ _ ⟨w2, ws2, _, t3, t4, t5, t6, t7, t8, t9, rfl, h1, Sub.refl _, by omega, h3⟩
  · obtain ⟨w', ws, s2, s3, s4, s5, s6, s7, s8, s9, rfl, hw', hS, hwl, gw⟩ := hP
    refine w_go (w_cons ?_)
    walk_at "y1"
    have hGw : G' w' = some (.lst (ws.map U.str)) := hS w' _ put_same
    refine ⟨rfl, .str (S []), .str, rfl, rfl, fun y e => by cases e; decide, fun z => absurd rfl z, fun y e => ?_⟩
    cases e
    have hE : hasE (S []) = true := by decide +kernel
    refine ⟨fun _ => ?_, fun h => by rw [hE] at h; cases h⟩
    simp only [isU, if_true, Bool.not_false, lsU]
    rw [show intsU (ns.map U.int) = some ns from (intsU_map id ns).trans (by rw [List.map_id])]
    refine ⟨rfl, ns.sum, 2, rfl, by decide, by decide, ?_⟩
    refine ⟨rfl, w', ws, mixI ns.sum 2, rfl, hGw, ?_, by omega, gw, (mixI_nn _ _).1, ?_⟩
    · intro e
      subst e
      rw [List.length_nil] at hwl
      omega
    · refine ⟨G, fun x o hx => hS x o ?_, q⟩
      have nx : x ≠ w' := fun e => by
        subst e
        rw [put_ne (ne_put hx gL)] at hw'
        rw [hx] at hw'
        cases hw'
      rw [put_ne nx, put_ne (ne_put hx gL)]
      exact hx
end Y

namespace Y
open PySem PySem.Spec PyProof.Rows L2
abbrev tb0 : Tb := ⟨fun _ => 0, fun _ => default⟩
theorem hd_mk {K : PySem.W.Frag} {h : Heap} {mg : Str → Option Value} (X : K.In h) (Gn : h.Ns mainGlobals mg) {x : Str} {st : Stmt} {f : Addr} {oc : Value} {od an : Option Addr} {osl : Array (Option Value)} {kV doc pm cdv ct : Value}
    (a : PySem.W.nsIn K mainGlobals x = some (some (.ref f))) (l : K.lookup f = some ⟨oc, od, .func (PySem.W.fnOf x x (defArgs st) (defBody st) (defScope st) .none kV doc pm an cdv ct), osl⟩) (c : PySem.W.codeIn K cdv x = true) (k : PySem.W.keepIn K (.ref f) = true) : HasDef K mg x st := ⟨f, _, PySem.W.mg_of X Gn a, fun_mk l c k⟩
theorem cs_mk {K : PySem.W.Frag} {h : Heap} {mg : Str → Option Value} (X : K.In h) (Gn : h.Ns mainGlobals mg) {T : Tb} {x : Str} (zs : List Str) {a : Addr} {o : Obj} {its : Array Value} {m : Nat} (e : PySem.W.nsIn K mainGlobals x = some (some (.ref a))) (l : K.lookup a = some o) (c : o.cls = .type "tuple") (d : o.data = .seq its m) (z : its.size ≤ sizeLine) (r : Vals (zs.map V.str) its.toList) :
    ∃ v val, mg x = some val ∧ L2.RelV v val ∧ ∀ H, RU T K H (.tup (zs.map U.str)) v := con_strs (PySem.W.mg_of X Gn e) l c d z r
structure Top (K : PySem.W.Frag) (mg : Str → Option Value) : Prop where
  d_is_whole : HasDef K mg "is_whole" st_is_whole
  d_is_among : HasDef K mg "is_among" st_is_among
  d_is_name : HasDef K mg "is_name" st_is_name
  d_number_of : HasDef K mg "number_of" st_number_of
  d_words_of : HasDef K mg "words_of" st_words_of
  d__law_mixed : HasDef K mg "_law_mixed" st__law_mixed
  d__law_word : HasDef K mg "_law_word" st__law_word
  d__law_number : HasDef K mg "_law_number" st__law_number
  d__law_one : HasDef K mg "_law_one" st__law_one
  d__law_row : HasDef K mg "_law_row" st__law_row
  d_law : HasDef K mg "law" st_law
  c_MOST_LETTERS : ∃ v val, mg "MOST_LETTERS" = some val ∧ L2.RelV v val ∧ ∀ H, RU tb0 K H (.int 8) v
  c_RESERVED : ∃ v val, mg "RESERVED" = some val ∧ L2.RelV v val ∧ ∀ H, RU tb0 K H (.tup [(.str (S [97, 110, 121])), (.str (S [110, 111, 110, 101])), (.str (S [97, 116])), (.str (S [109, 111, 118, 101])), (.str (S [98, 111, 120])), (.str (S [108, 101, 110, 100])), (.str (S [109, 101, 110, 100]))]) v
  c_LETTERS : ∃ v val, mg "LETTERS" = some val ∧ L2.RelV v val ∧ ∀ H, RU tb0 K H (.str (S [97, 98, 99, 100, 101, 102, 103, 104, 105, 106, 107, 108, 109, 110, 111, 112, 113, 114, 115, 116, 117, 118, 119, 120, 121, 122])) v
  c_FIGURES : ∃ v val, mg "FIGURES" = some val ∧ L2.RelV v val ∧ ∀ H, RU tb0 K H (.str (S [48, 49, 50, 51, 52, 53, 54, 55, 56, 57])) v
  c_MOST_FIGURES : ∃ v val, mg "MOST_FIGURES" = some val ∧ L2.RelV v val ∧ ∀ H, RU tb0 K H (.int 10) v
  b_isinstance : mg "isinstance" = none
  b_bool : mg "bool" = none
  b_int : mg "int" = none
  b_len : mg "len" = none
  b_str : mg "str" = none
  b_all : mg "all" = none
  b_range : mg "range" = none
  b_list : mg "list" = none
  b_sum : mg "sum" = none
section
variable {P : Program} {w : World} {K : PySem.W.Frag} {mg : Str → Option Value} {base : Heap}
theorem a_is_whole (t : Top K mg) : FnA tb0 P w K mg base 1 "is_whole" 1 sp_is_whole :=
  def_ok t.d_is_whole sc_is_whole hc_is_whole (fun _ _ _ _ _ _ us hl => match us, hl with | [_], _ => rfl) (mf_mk (Γ := gm) all_nil all_nil (all_cons t.b_isinstance (all_cons t.b_bool (all_cons t.b_int all_nil)))) fun us G Q E _ h => w_is_whole h
theorem a_is_name (t : Top K mg) : FnA tb0 P w K mg base 1 "is_name" 1 sp_is_name :=
  def_ok t.d_is_name sc_is_name hc_is_name (fun _ _ _ _ _ _ us hl => match us, hl with | [_], _ => rfl) (mf_mk (Γ := gm) all_nil (all_cons t.c_MOST_LETTERS (all_cons t.c_RESERVED (all_cons t.c_LETTERS all_nil))) (all_cons t.b_len (all_cons t.b_isinstance (all_cons t.b_str (all_cons t.b_all all_nil))))) fun us G Q E _ h => w_is_name h
theorem a_number_of (t : Top K mg) : FnA tb0 P w K mg base 1 "number_of" 1 sp_number_of :=
  def_ok t.d_number_of sc_number_of hc_number_of (fun _ _ _ _ _ _ us hl => match us, hl with | [_], _ => rfl) (mf_mk (Γ := gm) all_nil (all_cons t.c_FIGURES (all_cons t.c_MOST_FIGURES all_nil)) (all_cons t.b_isinstance (all_cons t.b_str (all_cons t.b_all (all_cons t.b_len (all_cons t.b_int all_nil)))))) fun us G Q E _ h => w_number_of h
theorem a_words_of (t : Top K mg) : FnA tb0 P w K mg base 1 "words_of" 1 sp_words_of :=
  def_ok t.d_words_of sc_words_of hc_words_of (fun _ _ _ _ _ _ us hl => match us, hl with | [_], _ => rfl) (mf_mk (Γ := gm) all_nil all_nil (all_cons t.b_isinstance (all_cons t.b_str all_nil))) fun us G Q E _ h => w_words_of h
theorem a__law_mixed (t : Top K mg) : FnA tb0 P w K mg base 1 "_law_mixed" 2 sp_mixed :=
  def_ok t.d__law_mixed sc__law_mixed hc__law_mixed (fun _ _ _ _ _ _ us hl => match us, hl with | [_, _], _ => rfl) (mf_mk (Γ := gm) all_nil all_nil all_nil) fun us G Q E _ h => w_mixed h
theorem a__law_number (t : Top K mg) : FnA tb0 P w K mg base 1 "_law_number" 1 sp_number :=
  def_ok t.d__law_number sc__law_number hc__law_number (fun _ _ _ _ _ _ us hl => match us, hl with | [_], _ => rfl) (mf_mk (Γ := gm) all_nil all_nil (all_cons t.b_len all_nil)) fun us G Q E _ h => w_number h
theorem a_is_among (t : Top K mg) : FnA tb0 P w K mg base 2 "is_among" 3 sp_is_among :=
  def_ok t.d_is_among sc_is_among hc_is_among (fun _ _ _ _ _ _ us hl => match us, hl with | [_, _, _], _ => rfl) (mf_mk (Γ := gm) (all_cons ((a_is_whole t).mono (by decide)) all_nil) all_nil all_nil) fun us G Q E _ h => w_is_among rfl rfl h
theorem a__law_word (t : Top K mg) : FnA tb0 P w K mg base 2 "_law_word" 2 sp_word :=
  def_ok t.d__law_word sc__law_word hc__law_word (fun _ _ _ _ _ _ us hl => match us, hl with | [_, _], _ => rfl) (mf_mk (Γ := gm) (all_cons ((a__law_mixed t).mono (by decide)) all_nil) all_nil (all_cons t.b_range (all_cons t.b_len all_nil))) fun us G Q E _ h => w_word rfl rfl h
theorem a__law_one (t : Top K mg) : FnA tb0 P w K mg base 2 "_law_one" 1 sp_one :=
  def_ok t.d__law_one sc__law_one hc__law_one (fun _ _ _ _ _ _ us hl => match us, hl with | [_], _ => rfl) (mf_mk (Γ := gm) (all_cons ((a__law_number t).mono (by decide)) (all_cons ((a_number_of t).mono (by decide)) (all_cons ((a_is_name t).mono (by decide)) all_nil))) all_nil (all_cons t.b_isinstance (all_cons t.b_bool (all_cons t.b_len all_nil)))) fun us G Q E _ h => w_one h
theorem a__law_row (t : Top K mg) : FnA tb0 P w K mg base 2 "_law_row" 2 sp_row :=
  def_ok t.d__law_row sc__law_row hc__law_row (fun _ _ _ _ _ _ us hl => match us, hl with | [_, _], _ => rfl) (mf_mk (Γ := gm) (all_cons ((a_words_of t).mono (by decide)) all_nil) all_nil (all_cons t.b_range (all_cons t.b_isinstance (all_cons t.b_list (all_cons t.b_len all_nil))))) fun us G Q E _ h => w_row h
theorem a_law {fa : Addr} (hfa : mg "law" = some (.ref fa)) (t : Top K mg) : ∃ fd : FuncData, (∀ (s : Shared) (v : Value), BindsTo s fd ⟨[v], []⟩ [("_law_script", v)]) ∧ ∀ base : Heap, FnOk P w K mg base (L2.CX P w) 3 fa fd ["_law_script"] (lSp tb0 K 1 sp_law) := by
  obtain ⟨f, fd, hm, F⟩ := t.d_law
  cases hfa.symm.trans hm
  refine ⟨fd, ?_, fun base => fn_u F sc_law hc_law (mf_mk (Γ := gm) (all_cons ((a__law_mixed t).mono (by decide)) (all_cons ((a__law_word t).mono (by decide)) (all_cons ((a__law_one t).mono (by decide)) (all_cons ((a_is_name t).mono (by decide)) (all_cons ((a_words_of t).mono (by decide)) (all_cons ((a_number_of t).mono (by decide)) (all_cons ((a_is_among t).mono (by decide)) (all_cons ((a_is_whole t).mono (by decide)) (all_cons ((a__law_row t).mono (by decide)) all_nil))))))))) all_nil (all_cons t.b_sum (all_cons t.b_str all_nil))) fun us G Q E _ h => w_law h⟩
  obtain ⟨oc, od, kV, doc, pm, an, cdv, ct, osl, rfl, lk, hcd⟩ := F.ex
  exact fun s v => .of_eq rfl
end
theorem law_start {K : PySem.W.Frag} {H : Hp} {a : Addr} {ns : List Int} (hO : Only H) (hS : SqL K H a (ns.map V.int)) : LQ K H a (ns.map V.int) := by
  rcases hS with hS | hS
  · rcases hO a with e | ⟨o, u, e⟩
    · rcases hS with hS | ⟨o, hS⟩ <;> rw [e] at hS <;> cases hS
    · rcases hS with hS | ⟨o, hS⟩
      · rw [e] at hS; cases hS
      · exact .inl ⟨o, hS⟩
  · exact .inr hS
theorem walk_y {l : PySem.W.OpenLaw} {k : Nat} {q : Program} {loose : List Str} {XP : (Str → Option Value) → Heap → Prop} {YP : World → Heap → Prop} {d : DefRec} {K : Params → PySem.W.Frag} {T : Tb} {sp : SpU} {x : Str}
    (hn : l.most = some 63) (hdf : d.params.defaults = []) (hr : Room k callerA)
    (hY : ∀ (w : World) (h : Heap), YP w h → (K w.params).In h)
    (F : ∀ (w : World) (mg : Str → Option Value) (fa : Addr) (h : Heap), (K w.params).In h → h.Ns mainGlobals mg → mg d.name = some (.ref fa) →
      ∃ fd : FuncData, (∀ (s : Shared) (u : Value), BindsTo s fd ⟨[u], []⟩ [(x, u)]) ∧ ∀ base : Heap, FnOk l.prog w (K w.params) mg base (L2.CX l.prog w) k fa fd [x] (lSp T (K w.params) 1 sp))
    (hsp : ∀ ns : List Int, ns.length ≤ 63 → sp [.rl (ns.map U.int)] (fun _ => none) (fun v _ => v = .bl true) fun _ _ _ => False) :
    PySem.W.WalkO q loose XP YP l.row.toRowW d [] (fun f vs => PySem.call f vs) := by
  refine L2.walk_of (x := x) (K := K) (CX := fun w => L2.CX l.prog w) (sp := fun w => lSp T (K w.params) 1 sp) hn (by decide) hdf hr hY (fun w mg fa h X Gn e => ?_) (fun w H a ns hl hO hS => ?_) (fun w H s e s' z => ?_)
  · obtain ⟨fd, hb, hF⟩ := F w mg fa h X Gn e
    exact ⟨fd, hb, fun base _ _ => hF base⟩
  · refine ⟨_, fun _ => none, fun v _ => v = .bl true, fun _ _ _ => False, rfl, .cons (.rl (law_start hO hS) (RUs.ints ns)) .nil, (fun a o e => nomatch e), hsp ns hl, fun v H' h => ?_, fun c d H' h => ?_⟩
    · obtain ⟨u, Gg, t, ab, r, e⟩ := h
      subst e
      cases r
      rfl
    · obtain ⟨c, fs, Gg, _, _, _, _, e⟩ := h
      exact e
  · obtain ⟨_, _, _, _, _, _, _, _, _, _, _, _, h⟩ := z
    exact h
end Y
open PySem PySem.W PyProof.Rows
set_option maxHeartbeats 0 in
theorem PySem.Challenge.cw_lastingly_k01_words_holds : PySem.Challenge.rw_lastingly_k01_words.Holds := by
  w_on; o_law; k_head; (case hw => w_witness2)
  k_fill
  refine Y.walk_y (l := PySem.Challenge.rw_lastingly_k01_words) (k := 3) (T := Y.tb0) (x := "_law_script") (sp := Y.sp_law) rfl rfl ⟨rfl, by decide, by decide⟩ (fun w h Y => PySem.W.kIn_of Y) ?F (fun ns hl => ⟨ns, rfl, hl, rfl⟩)
  case F =>
    intro w mg fa h KX G hmg
    have t : Y.Top (L2.KOf KX) mg := by
      refine' ⟨(Y.hd_mk KX G ?a1 ?l2 ?c3 ?k4), (Y.hd_mk KX G ?a5 ?l6 ?c7 ?k8), (Y.hd_mk KX G ?a9 ?l10 ?c11 ?k12), (Y.hd_mk KX G ?a13 ?l14 ?c15 ?k16), (Y.hd_mk KX G ?a17 ?l18 ?c19 ?k20), (Y.hd_mk KX G ?a21 ?l22 ?c23 ?k24), (Y.hd_mk KX G ?a25 ?l26 ?c27 ?k28), (Y.hd_mk KX G ?a29 ?l30 ?c31 ?k32), (Y.hd_mk KX G ?a33 ?l34 ?c35 ?k36), (Y.hd_mk KX G ?a37 ?l38 ?c39 ?k40), (Y.hd_mk KX G ?a41 ?l42 ?c43 ?k44), (Y.con_int (PySem.W.mg_of KX G ?v45)), (Y.cs_mk KX G [Y.S [97, 110, 121], Y.S [110, 111, 110, 101], Y.S [97, 116], Y.S [109, 111, 118, 101], Y.S [98, 111, 120], Y.S [108, 101, 110, 100], Y.S [109, 101, 110, 100]] ?v46 ?o47 ?r48c ?r48d ?r48z ?r48), (Y.con_str (PySem.W.mg_of KX G ?v49)), (Y.con_str (PySem.W.mg_of KX G ?v50)), (Y.con_int (PySem.W.mg_of KX G ?v51)), (PySem.W.mg_none_of KX G ?z52), (PySem.W.mg_none_of KX G ?z53), (PySem.W.mg_none_of KX G ?z54), (PySem.W.mg_none_of KX G ?z55), (PySem.W.mg_none_of KX G ?z56), (PySem.W.mg_none_of KX G ?z57), (PySem.W.mg_none_of KX G ?z58), (PySem.W.mg_none_of KX G ?z59), (PySem.W.mg_none_of KX G ?z60)⟩
      (case a1 => k_is)
      (case l2 => k_is)
      (case c3 => k_is)
      (case k4 => k_is)
      (case a5 => k_is)
      (case l6 => k_is)
      (case c7 => k_is)
      (case k8 => k_is)
      (case a9 => k_is)
      (case l10 => k_is)
      (case c11 => k_is)
      (case k12 => k_is)
      (case a13 => k_is)
      (case l14 => k_is)
      (case c15 => k_is)
      (case k16 => k_is)
      (case a17 => k_is)
      (case l18 => k_is)
      (case c19 => k_is)
      (case k20 => k_is)
      (case a21 => k_is)
      (case l22 => k_is)
      (case c23 => k_is)
      (case k24 => k_is)
      (case a25 => k_is)
      (case l26 => k_is)
      (case c27 => k_is)
      (case k28 => k_is)
      (case a29 => k_is)
      (case l30 => k_is)
      (case c31 => k_is)
      (case k32 => k_is)
      (case a33 => k_is)
      (case l34 => k_is)
      (case c35 => k_is)
      (case k36 => k_is)
      (case a37 => k_is)
      (case l38 => k_is)
      (case c39 => k_is)
      (case k40 => k_is)
      (case a41 => k_is)
      (case l42 => k_is)
      (case c43 => k_is)
      (case k44 => k_is)
      (case v45 => k_is)
      (case v46 => k_is)
      (case o47 => k_is)
      (case v49 => k_is)
      (case v50 => k_is)
      (case v51 => k_is)
      (case z52 => k_is)
      (case z53 => k_is)
      (case z54 => k_is)
      (case z55 => k_is)
      (case z56 => k_is)
      (case z57 => k_is)
      (case z58 => k_is)
      (case z59 => k_is)
      (case z60 => k_is)
      (case r48c => exact rfl)
      (case r48d => exact rfl)
      (case r48z => decide)
      (case r48 => exact (.cons ⟨_, rfl⟩ (.cons ⟨_, rfl⟩ (.cons ⟨_, rfl⟩ (.cons ⟨_, rfl⟩ (.cons ⟨_, rfl⟩ (.cons ⟨_, rfl⟩ (.cons ⟨_, rfl⟩ .nil))))))))
    exact Y.a_law hmg t

