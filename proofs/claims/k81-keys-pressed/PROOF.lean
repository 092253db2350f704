import PyProof.Rows.All
import Wide.All
import OpenK.AllK
import Wide.FinOn
import HandS.ForMost
import HandS.ForExc
import HandS.Deep
import HandS.Zip
import HandS.Rev
import HandS.RevRange
import HandS.Conv
import HandS.Style
import HandS.TupAny
import HandS.TupLen
import HandS.IsInst
import HandS.Strs
import HandS.RaiseMore
import HandS.Small
import HandS.Wide
import HandS.Defaults
import HandS.HeadEnd
import HandS.HeadHook2
import HandS.HeadHook3
import HandS.Head0
import HandS.Head1
import HandS.Head2
import KE.SortData
import PyProof.StrBlock2
import KE.DataMinMax
import HandS.SetKeys
import HandS.SetFor
import PyProof.DictMoreH
import KE.GoesEnum
import HandS.Exc
import HandS.ExcInit
import HandS.ExcField
import HandS.ExcIs
import HandS.ExcCtx
import HandS.TryOnly
import KE.KExcIs
import HandS.ExcInitHot
import PySem.Challenge.RW_focuswalk_k81_keys_pressed
set_option Elab.async false
set_option linter.all false
set_option maxRecDepth 100000
/-! The layer: values as trees, a store of lists, dicts, instances; what links them with the hand layer's abstract heap. -/
namespace FW
open PySem PySem.Spec PyProof.Rows L2

inductive Val where
  | non | bl (b : Bool) | int (i : Int) | str (x : Str) | tup (vs : List Val) | scr (vs : List Val) | kt (vs : List Val) | ref (a : Addr) | exn (x f : Str) (v : Val)
  deriving Inhabited
inductive Ob where
  | lst (vs : List Val)
  | dic (kvs : List (Val × Val))
  | dlk (kvs : List (Val × Val)) (o : Obj) (t : List (Key × V))
  | ins (c : Str) (fs : List (Str × Val))
abbrev Sto := Addr → Option Ob
def Sto.put (S : Sto) (a : Addr) (o : Ob) : Sto := fun b => if b = a then some o else S b
theorem put_same {S : Sto} {a : Addr} {o : Ob} : S.put a o a = some o := by unfold Sto.put; rw [if_pos rfl]
theorem put_ne {S : Sto} {a b : Addr} {o : Ob} (h : b ≠ a) : S.put a o b = S b := by unfold Sto.put; rw [if_neg h]
theorem put_id {S : Sto} {a : Addr} {o : Ob} (e : S a = some o) : S.put a o = S := by
  funext b; unfold Sto.put; split
  · rename_i z; rw [z, e]
  · rfl
theorem put_put {S : Sto} {a : Addr} {o u : Ob} : (S.put a o).put a u = S.put a u := by
  funext b; unfold Sto.put; split <;> rfl

/-! ### what links a value with the layer's -/
/-- a list that nobody writes -/
def SqF (K : PySem.W.Frag) (H : Hp) (a : Addr) (xs : List V) : Prop :=
  (∃ o, H a = some (.frz o (.lst xs))) ∨
    ∃ (o : Obj) (its : Array Value) (n : Nat), K.lookup a = some o ∧ o.cls = .type "list" ∧ o.dict = none ∧ o.data = .seq its n ∧ its.size ≤ sizeLine ∧ Vals xs its.toList
theorem SqF.sql {K : PySem.W.Frag} {H : Hp} {a : Addr} {xs : List V} (h : SqF K H a xs) : SqL K H a xs := h.elim (fun ⟨o, h⟩ => .inl (.inr ⟨o, h⟩)) fun h => .inr h
theorem SqF.of {K : PySem.W.Frag} {H : Hp} {a : Addr} {xs : List V} (o : Only H) (h : SqL K H a xs) : SqF K H a xs := by
  rcases h with (h | ⟨o', h⟩) | h
  · rcases o a with z | ⟨_, _, z⟩ <;> rw [h] at z <;> cases z
  · exact .inl ⟨o', h⟩
  · exact .inr h
/-- a tuple of the module's own -/
def SqK (K : PySem.W.Frag) (a : Addr) (xs : List V) : Prop :=
  ∃ (o : Obj) (its : Array Value) (n : Nat), K.lookup a = some o ∧ o.cls = .type "tuple" ∧ o.dict = none ∧ o.data = .seq its n ∧ its.size ≤ sizeLine ∧ Vals xs its.toList
/-- at a: an exception of the class named x, its dict d -/
def EX (K : PySem.W.Frag) (x : Str) (a : Addr) (d : Option Addr) : HO := .ext fun h => ∃ (oe : Obj) (vs : Array Value), h.get? a = some oe ∧ Zc (.ref (He.ga K x)) d oe ∧ oe.data = .fields vs ∧ vs[2]? = some .none
mutual
inductive RV (K : PySem.W.Frag) (H : Hp) : Val → V → Prop
  | non : RV K H .non .non
  | bl (b : Bool) : RV K H (.bl b) (.bl b)
  | int (i : Int) : RV K H (.int i) (.int i)
  | str (x : Str) : RV K H (.str x) (.str x)
  | ref (a : Addr) : RV K H (.ref a) (.ref a)
  | tup {vs : List Val} {a : Addr} {xs : List V} : H a = some (.tup xs) → RVs K H vs xs → RV K H (.tup vs) (.ref a)
  | kt {vs : List Val} {a : Addr} {xs : List V} : SqK K a xs → RVs K H vs xs → RV K H (.kt vs) (.ref a)
  | scr {vs : List Val} {a : Addr} {xs : List V} : SqF K H a xs → RVs K H vs xs → RV K H (.scr vs) (.ref a)
  | exn0 {x : Str} {a : Addr} : H a = some (EX K x a none) → RV K H (.exn x Str.empty .non) (.ref a)
  | exn1 {x f : Str} {v : Val} {a d : Addr} {y : V} : f ≠ Str.empty → H a = some (EX K x a (some d)) → H d = some (.xd [(f, y)]) → RV K H v y → RV K H (.exn x f v) (.ref a)
inductive RVs (K : PySem.W.Frag) (H : Hp) : List Val → List V → Prop
  | nil : RVs K H [] []
  | cons {v : Val} {x : V} {vs : List Val} {xs : List V} : RV K H v x → RVs K H vs xs → RVs K H (v :: vs) (x :: xs)
end
structure TupK (K : PySem.W.Frag) (H H' : Hp) : Prop where
  t : ∀ a xs, H a = some (.tup xs) → H' a = some (.tup xs)
  f : ∀ a xs, SqF K H a xs → SqF K H' a xs
  e : ∀ a φ, H a = some (.ext φ) → H' a = some (.ext φ)
  x : ∀ a t, H a = some (.xd t) → H' a = some (.xd t)
section
variable {K : PySem.W.Frag} {H H' : Hp}
mutual
theorem RV.mono (k : TupK K H H') : ∀ {v : Val} {x : V}, RV K H v x → RV K H' v x
  | _, _, .non => .non
  | _, _, .bl b => .bl b
  | _, _, .int i => .int i
  | _, _, .str x => .str x
  | _, _, .ref a => .ref a
  | _, _, .tup h r => .tup (k.t _ _ h) (RVs.mono k r)
  | _, _, .scr h r => .scr (k.f _ _ h) (RVs.mono k r)
  | _, _, .kt h r => .kt h (RVs.mono k r)
  | _, _, .exn0 h => .exn0 (k.e _ _ h)
  | _, _, .exn1 n h d r => .exn1 n (k.e _ _ h) (k.x _ _ d) (RV.mono k r)
theorem RVs.mono (k : TupK K H H') : ∀ {vs : List Val} {xs : List V}, RVs K H vs xs → RVs K H' vs xs
  | _, _, .nil => .nil
  | _, _, .cons h r => .cons (RV.mono k h) (RVs.mono k r)
end
theorem RVs.len : ∀ {vs : List Val} {xs : List V}, RVs K H vs xs → vs.length = xs.length
  | _, _, .nil => rfl
  | _, _, .cons _ r => by rw [List.length_cons, List.length_cons, RVs.len r]
theorem RVs.get : ∀ {vs : List Val} {xs : List V} {i : Nat} {v : Val}, RVs K H vs xs → vs[i]? = some v → ∃ x, xs[i]? = some x ∧ RV K H v x
  | _, _, _, _, .nil, e => by simp at e
  | _, _, 0, _, .cons h _, e => by simp at e; subst e; exact ⟨_, rfl, h⟩
  | _, _, i + 1, v, .cons _ r, e => by
    obtain ⟨x, h1, h2⟩ := RVs.get (i := i) (v := v) r (by simpa using e)
    exact ⟨x, by simpa using h1, h2⟩
theorem RVs.getX : ∀ {vs : List Val} {xs : List V} {i : Nat} {x : V}, RVs K H vs xs → xs[i]? = some x → ∃ v, vs[i]? = some v ∧ RV K H v x
  | _, _, _, _, .nil, e => by simp at e
  | _, _, 0, _, .cons h _, e => by simp at e; subst e; exact ⟨_, rfl, h⟩
  | _, _, i + 1, x, .cons _ r, e => by
    obtain ⟨v, h1, h2⟩ := RVs.getX (i := i) (x := x) r (by simpa using e)
    exact ⟨v, by simpa using h1, h2⟩
theorem RVs.append : ∀ {vs ws : List Val} {xs ys : List V}, RVs K H vs xs → RVs K H ws ys → RVs K H (vs ++ ws) (xs ++ ys)
  | _, _, _, _, .nil, s => s
  | _, _, _, _, .cons h r, s => .cons h (RVs.append r s)
theorem RVs.take : ∀ {vs : List Val} {xs : List V} (n : Nat), RVs K H vs xs → RVs K H (vs.take n) (xs.take n)
  | _, _, 0, _ => .nil
  | _, _, _ + 1, .nil => .nil
  | _, _, n + 1, .cons h r => .cons h (RVs.take n r)
theorem RVs.drop : ∀ {vs : List Val} {xs : List V} (n : Nat), RVs K H vs xs → RVs K H (vs.drop n) (xs.drop n)
  | _, _, 0, r => r
  | _, _, _ + 1, .nil => .nil
  | _, _, n + 1, .cons _ r => RVs.drop n r
theorem RVs.set {v : Val} {x : V} (h : RV K H v x) : ∀ {vs : List Val} {xs : List V} (i : Nat), RVs K H vs xs → RVs K H (vs.set i v) (xs.set i x)
  | _, _, _, .nil => .nil
  | _, _, 0, .cons _ r => .cons h r
  | _, _, i + 1, .cons q r => .cons q (RVs.set h i r)
theorem RVs.eraseIdx : ∀ {vs : List Val} {xs : List V} (i : Nat), RVs K H vs xs → RVs K H (vs.eraseIdx i) (xs.eraseIdx i)
  | _, _, _, .nil => .nil
  | _, _, 0, .cons _ r => r
  | _, _, i + 1, .cons q r => .cons q (RVs.eraseIdx i r)
theorem RVs.reverse {vs : List Val} {xs : List V} (r : RVs K H vs xs) : RVs K H vs.reverse xs.reverse := by
  induction vs generalizing xs with
  | nil => cases r; exact .nil
  | cons v vs ih =>
    cases r with
    | cons h r =>
      rw [List.reverse_cons, List.reverse_cons]
      exact (ih r).append (.cons h .nil)
theorem RVs.one {v : Val} {x : V} (h : RV K H v x) : RVs K H [v] [x] := .cons h .nil
theorem RVs.ints : ∀ {ns : List Int} {xs : List V}, RVs K H (ns.map Val.int) xs → xs = ns.map V.int
  | [], _, .nil => rfl
  | n :: ns, _, .cons h r => by cases h; rw [List.map_cons, RVs.ints r]
theorem rvs_ints : ∀ (ns : List Int), RVs K H (ns.map Val.int) (ns.map V.int)
  | [] => .nil
  | n :: ns => .cons (.int n) (rvs_ints ns)
theorem RVs.strs : ∀ {ns : List Str} {xs : List V}, RVs K H (ns.map Val.str) xs → xs = ns.map V.str
  | [], _, .nil => rfl
  | n :: ns, _, .cons h r => by cases h; rw [List.map_cons, RVs.strs r]
theorem rvs_strs : ∀ (ns : List Str), RVs K H (ns.map Val.str) (ns.map V.str)
  | [] => .nil
  | n :: ns => .cons (.str n) (rvs_strs ns)
theorem RVs.bls : ∀ {ns : List Bool} {xs : List V}, RVs K H (ns.map Val.bl) xs → xs = ns.map V.bl
  | [], _, .nil => rfl
  | n :: ns, _, .cons h r => by cases h; rw [List.map_cons, RVs.bls r]
end

/-! ### objects -/
/-- a key that is an int or a text -/
def kOf : Val → Option Key
  | .int i => some (.inl i)
  | .str x => some (.inr x)
  | _ => none
def ksOf : List Val → Option (List Key)
  | [] => some []
  | v :: vs => match kOf v, ksOf vs with
    | some k, some ks => some (k :: ks)
    | _, _ => none
/-- a key that is a tuple of such -/
def ktOf : Val → Option (List Key)
  | .tup vs => ksOf vs
  | _ => none
inductive RD {κ : Type} (K : PySem.W.Frag) (H : Hp) (f : Val → Option κ) : List (Val × Val) → List (κ × V) → Prop
  | nil : RD K H f [] []
  | cons {k v : Val} {q : κ} {x : V} {r : List (Val × Val)} {t : List (κ × V)} : f k = some q → RV K H v x → RD K H f r t → RD K H f ((k, v) :: r) ((q, x) :: t)
inductive RF (K : PySem.W.Frag) (H : Hp) : List (Str × Val) → List (Str × V) → Prop
  | nil : RF K H [] []
  | cons {f : Str} {v : Val} {x : V} {r : List (Str × Val)} {t : List (Str × V)} : RV K H v x → RF K H r t → RF K H ((f, v) :: r) ((f, x) :: t)
section
variable {K : PySem.W.Frag} {H H' : Hp}
theorem RD.mono {κ : Type} {f : Val → Option κ} (k : TupK K H H') : ∀ {a : List (Val × Val)} {b : List (κ × V)}, RD K H f a b → RD K H' f a b
  | _, _, .nil => .nil
  | _, _, .cons e h r => .cons e (h.mono k) (RD.mono k r)
theorem RF.mono (k : TupK K H H') : ∀ {a : List (Str × Val)} {b : List (Str × V)}, RF K H a b → RF K H' a b
  | _, _, .nil => .nil
  | _, _, .cons h r => .cons (h.mono k) (RF.mono k r)
end
def RO (K : PySem.W.Frag) (ca : Nat → Addr) (H : Hp) (a : Addr) : Ob → Prop
  | .lst vs => ∃ xs, H a = some (.lst xs) ∧ RVs K H vs xs
  | .dic kvs => (∃ t, H a = some (.dK t) ∧ RD K H kOf kvs t) ∨ ∃ t, H a = some (.dT t) ∧ RD K H ktOf kvs t
  | .dlk kvs o t => H a = some (.frz o (.dK t)) ∧ RD K H kOf kvs t
  | .ins c fs => ∃ dx t, H a = some (.ins (He.ga K c) dx t) ∧ RF K H fs t
/-- what never changes: tuples, lists that nobody writes -/
def Fix : HO → Bool
  | .tup _ => true
  | .frz _ (.tup _) => true
  | .frz _ (.lst _) => true
  | .ext _ => true
  | .xd _ => true
  | _ => false
theorem RO.nt {K : PySem.W.Frag} {ca : Nat → Addr} {H : Hp} {a : Addr} {o : Ob} (h : RO K ca H a o) {u : HO} (e : H a = some u) : Fix u = false := by
  cases o with
  | lst vs => obtain ⟨xs, q, _⟩ := h; rw [e] at q; cases q; rfl
  | dic kvs => rcases h with ⟨t, q, _⟩ | ⟨t, q, _⟩ <;> rw [e] at q <;> cases q <;> rfl
  | dlk kvs o t => obtain ⟨q, _⟩ := h; rw [e] at q; cases q; rfl
  | ins c fs => obtain ⟨_, _, q, _⟩ := h; rw [e] at q; cases q; rfl
/-- an object's link leans on its own place and the tuples -/
theorem RO.stay {K : PySem.W.Frag} {ca : Nat → Addr} {H H' : Hp} {a : Addr} {o : Ob} (h : RO K ca H a o) (e : H' a = H a) (k : TupK K H H') : RO K ca H' a o := by
  cases o with
  | lst vs => obtain ⟨xs, q, r⟩ := h; exact ⟨xs, by rw [e]; exact q, r.mono k⟩
  | dic kvs =>
    rcases h with ⟨t, q, r⟩ | ⟨t, q, r⟩
    · exact .inl ⟨t, by rw [e]; exact q, r.mono k⟩
    · exact .inr ⟨t, by rw [e]; exact q, r.mono k⟩
  | dlk kvs o t => obtain ⟨q, r⟩ := h; exact ⟨by rw [e]; exact q, r.mono k⟩
  | ins c fs => obtain ⟨dx, t, q, r⟩ := h; exact ⟨dx, t, by rw [e]; exact q, r.mono k⟩

/-- the store is held by the abstract heap -/
def RS (K : PySem.W.Frag) (ca : Nat → Addr) (H : Hp) (S : Sto) : Prop := ∀ a o, S a = some o → RO K ca H a o
/-- a step of both -/
structure Step (S : Sto) (H : Hp) (S' : Sto) (H' : Hp) : Prop where
  hid : ∀ a o, S a = none → H a = some o → H' a = some o
  new : ∀ a, S a = none → S' a ≠ none → H a = none
  old : ∀ a, S a ≠ none → S' a ≠ none
theorem Step.refl {S : Sto} {H : Hp} : Step S H S H := ⟨fun _ _ _ h => h, fun a h q => absurd h q, fun _ h => h⟩
theorem Step.trans {S S1 S2 : Sto} {H H1 H2 : Hp} (p : Step S H S1 H1) (q : Step S1 H1 S2 H2) : Step S H S2 H2 where
  hid := fun a o e h => by
    have h1 := p.hid a o e h
    cases e1 : S1 a with
    | none => exact q.hid a o e1 h1
    | some u => have := p.new a e (by rw [e1]; exact fun z => nomatch z); rw [h] at this; cases this
  new := fun a e n => by
    cases e1 : S1 a with
    | some u => exact p.new a e (by rw [e1]; exact fun z => nomatch z)
    | none =>
      have h1 := q.new a e1 n
      cases e2 : H a with
      | none => rfl
      | some o => have := p.hid a o e e2; rw [h1] at this; cases this
  old := fun a e => q.old a (p.old a e)
section
variable {K : PySem.W.Frag} {ca : Nat → Addr} {S S' : Sto} {H H' : Hp}
theorem Step.fix (st : Step S H S' H') (r : RS K ca H S) {a : Addr} {u : HO} (e : H a = some u) (f : Fix u = true) : H' a = some u := by
  cases q : S a with
  | none => exact st.hid a _ q e
  | some o => have := (r a o q).nt e; rw [f] at this; cases this
theorem Step.tup (st : Step S H S' H') (r : RS K ca H S) : TupK K H H' := by
  refine ⟨fun a xs h => st.fix r h rfl, fun a xs h => ?_, fun a φ h => st.fix r h rfl, fun a t h => st.fix r h rfl⟩
  · rcases h with ⟨o, h⟩ | h
    · exact .inl ⟨o, st.fix r h rfl⟩
    · exact .inr h
theorem RS.fresh (r : RS K ca H S) {p : Addr} (h : H p = none) : S p = none := by
  cases e : S p with
  | none => rfl
  | some o =>
    have q := r p o e
    cases o with
    | lst vs => obtain ⟨xs, e', _⟩ := q; rw [h] at e'; cases e'
    | dic kvs => rcases q with ⟨t, e', _⟩ | ⟨t, e', _⟩ <;> rw [h] at e' <;> cases e'
    | dlk kvs o t => obtain ⟨e', _⟩ := q; rw [h] at e'; cases e'
    | ins c fs => obtain ⟨_, _, e', _⟩ := q; rw [h] at e'; cases e'
/-- a new object of the store -/
theorem Step.new1 {p : Addr} {o : Ob} {u : HO} (r : RS K ca H S) (h : H p = none) : Step S H (S.put p o) (upd H p u) where
  hid := fun a v e q => by rw [upd_ne (ne_of_none q h)]; exact q
  new := fun a e n => by
    by_cases hb : a = p
    · rw [hb]; exact h
    · rw [put_ne hb] at n; exact absurd e n
  old := fun a e => by
    by_cases hb : a = p
    · rw [hb, put_same]; exact fun z => nomatch z
    · rw [put_ne hb]; exact e
/-- a new object that the store doesn't hold (a tuple) -/
theorem Step.new0 {p : Addr} {u : HO} (h : H p = none) : Step S H S (upd H p u) where
  hid := fun a v e q => by rw [upd_ne (ne_of_none q h)]; exact q
  new := fun a e n => absurd e n
  old := fun a e => e
/-- an object of the store written -/
theorem Step.wr {p : Addr} {o : Ob} {u : HO} (h : S p ≠ none) : Step S H (S.put p o) (upd H p u) where
  hid := fun a v e q => by rw [upd_ne (fun z => h (by rw [← z]; exact e))]; exact q
  new := fun a e n => by
    by_cases hb : a = p
    · rw [hb] at e; exact absurd e h
    · rw [put_ne hb] at n; exact absurd e n
  old := fun a e => by
    by_cases hb : a = p
    · rw [hb, put_same]; exact fun z => nomatch z
    · rw [put_ne hb]; exact e
theorem tupK_upd {p : Addr} {u : HO} (h : ∀ v, H p = some v → Fix v = false) : TupK K H (upd H p u) := by
  refine ⟨fun a xs q => by rw [upd_ne (fun z => by rw [z] at q; have := h _ q; cases this)]; exact q, fun a xs q => ?_, fun a φ q => by rw [upd_ne (fun z => by rw [z] at q; have := h _ q; cases this)]; exact q, fun a t q => by rw [upd_ne (fun z => by rw [z] at q; have := h _ q; cases this)]; exact q⟩
  · rcases q with ⟨o, q⟩ | q
    · exact .inl ⟨o, by rw [upd_ne (fun z => by rw [z] at q; have := h _ q; cases this)]; exact q⟩
    · exact .inr q
theorem RS.put (r : RS K ca H S) {p : Addr} {o : Ob} {u : HO} (h : ∀ v, H p = some v → Fix v = false) (n : RO K ca (upd H p u) p o) : RS K ca (upd H p u) (S.put p o) := by
  intro a q e
  by_cases hb : a = p
  · subst hb; rw [put_same] at e; cases e; exact n
  · rw [put_ne hb] at e; exact (r a q e).stay (upd_ne hb) (tupK_upd h)
theorem RS.keep (r : RS K ca H S) {p : Addr} {u : HO} (h : H p = none) : RS K ca (upd H p u) S := by
  intro a q e
  have hb : a ≠ p := fun z => by have := r.fresh h; rw [← z, e] at this; cases this
  exact (r a q e).stay (upd_ne hb) (tupK_upd fun v z => by rw [h] at z; cases z)
theorem noneFix {p : Addr} (h : H p = none) : ∀ v, H p = some v → Fix v = false := fun v z => by rw [h] at z; cases z
end
end FW

set_option Elab.async false
set_option linter.all false
set_option maxRecDepth 100000
/-! The small language and its meaning. -/
namespace FW
open PySem PySem.Spec PyProof.Rows L2

mutual
def Val.deq : (a b : Val) → Decidable (a = b)
  | .non, .non => .isTrue rfl
  | .bl a, .bl b => if h : a = b then .isTrue (by rw [h]) else .isFalse fun q => h (by cases q; rfl)
  | .int a, .int b => if h : a = b then .isTrue (by rw [h]) else .isFalse fun q => h (by cases q; rfl)
  | .str a, .str b => if h : a = b then .isTrue (by rw [h]) else .isFalse fun q => h (by cases q; rfl)
  | .ref a, .ref b => if h : a = b then .isTrue (by rw [h]) else .isFalse fun q => h (by cases q; rfl)
  | .tup a, .tup b => match Val.deqs a b with
    | .isTrue h => .isTrue (by rw [h])
    | .isFalse h => .isFalse fun q => h (by cases q; rfl)
  | .scr a, .scr b => match Val.deqs a b with
    | .isTrue h => .isTrue (by rw [h])
    | .isFalse h => .isFalse fun q => h (by cases q; rfl)
  | .kt a, .kt b => match Val.deqs a b with
    | .isTrue h => .isTrue (by rw [h])
    | .isFalse h => .isFalse fun q => h (by cases q; rfl)
  | .exn a f v, .exn b g w => if h : a = b then (if k : f = g then (match Val.deq v w with
    | .isTrue z => .isTrue (by rw [h, k, z])
    | .isFalse z => .isFalse fun q => z (by cases q; rfl)) else .isFalse fun q => k (by cases q; rfl)) else .isFalse fun q => h (by cases q; rfl)
  | .non, .bl _ | .non, .int _ | .non, .str _ | .non, .tup _ | .non, .scr _ | .non, .kt _ | .non, .ref _ => .isFalse fun q => nomatch q
  | .bl _, .non | .bl _, .int _ | .bl _, .str _ | .bl _, .tup _ | .bl _, .scr _ | .bl _, .kt _ | .bl _, .ref _ => .isFalse fun q => nomatch q
  | .int _, .non | .int _, .bl _ | .int _, .str _ | .int _, .tup _ | .int _, .scr _ | .int _, .kt _ | .int _, .ref _ => .isFalse fun q => nomatch q
  | .str _, .non | .str _, .bl _ | .str _, .int _ | .str _, .tup _ | .str _, .scr _ | .str _, .kt _ | .str _, .ref _ => .isFalse fun q => nomatch q
  | .tup _, .non | .tup _, .bl _ | .tup _, .int _ | .tup _, .str _ | .tup _, .scr _ | .tup _, .kt _ | .tup _, .ref _ => .isFalse fun q => nomatch q
  | .scr _, .non | .scr _, .bl _ | .scr _, .int _ | .scr _, .str _ | .scr _, .tup _ | .scr _, .kt _ | .scr _, .ref _ => .isFalse fun q => nomatch q
  | .kt _, .non | .kt _, .bl _ | .kt _, .int _ | .kt _, .str _ | .kt _, .tup _ | .kt _, .scr _ | .kt _, .ref _ => .isFalse fun q => nomatch q
  | .ref _, .non | .ref _, .bl _ | .ref _, .int _ | .ref _, .str _ | .ref _, .tup _ | .ref _, .scr _ | .ref _, .kt _ => .isFalse fun q => nomatch q
  | .non, .exn _ _ _ | .bl _, .exn _ _ _ | .int _, .exn _ _ _ | .str _, .exn _ _ _ | .tup _, .exn _ _ _ | .scr _, .exn _ _ _ | .kt _, .exn _ _ _ | .ref _, .exn _ _ _ => .isFalse fun q => nomatch q
  | .exn _ _ _, .non | .exn _ _ _, .bl _ | .exn _ _ _, .int _ | .exn _ _ _, .str _ | .exn _ _ _, .tup _ | .exn _ _ _, .scr _ | .exn _ _ _, .kt _ | .exn _ _ _, .ref _ => .isFalse fun q => nomatch q
def Val.deqs : (a b : List Val) → Decidable (a = b)
  | [], [] => .isTrue rfl
  | [], _ :: _ => .isFalse fun q => nomatch q
  | _ :: _, [] => .isFalse fun q => nomatch q
  | x :: xs, y :: ys => match Val.deq x y, Val.deqs xs ys with
    | .isTrue h, .isTrue g => .isTrue (by rw [h, g])
    | .isFalse h, _ => .isFalse fun q => h (by cases q; rfl)
    | _, .isFalse g => .isFalse fun q => g (by cases q; rfl)
end
instance : DecidableEq Val := Val.deq

/-! ### reading the store -/
/-- the items of a tuple, a list -/
def its (S : Sto) : Val → Option (List Val)
  | .tup vs => some vs
  | .kt vs => some vs
  | .scr vs => some vs
  | .ref a => match S a with
    | some (.lst vs) => some vs
    | _ => none
  | _ => none
/-- the items of a list -/
def lts (S : Sto) : Val → Option (List Val)
  | .scr vs => some vs
  | .ref a => match S a with
    | some (.lst vs) => some vs
    | _ => none
  | _ => none
def dct (S : Sto) : Val → Option (List (Val × Val))
  | .ref a => match S a with
    | some (.dic kvs) => some kvs
    | _ => none
  | _ => none
def dget (kvs : List (Val × Val)) (k : Val) : Option Val := (kvs.find? fun p => decide (p.1 = k)).map (·.2)
def dput (kvs : List (Val × Val)) (k v : Val) : List (Val × Val) :=
  if kvs.any (fun p => decide (p.1 = k)) then kvs.map fun p => if p.1 = k then (p.1, v) else p else kvs ++ [(k, v)]
def ddrop (kvs : List (Val × Val)) (k : Val) : List (Val × Val) := kvs.filter fun p => decide (p.1 ≠ k)
/-- a key of a dict: flat, or a tuple of flat ones -/
def keyK (k : Val) : Bool := (kOf k).isSome
def keyT (k : Val) : Bool := (ktOf k).isSome
def allK (kvs : List (Val × Val)) : Bool := kvs.all fun p => keyK p.1
def allT (kvs : List (Val × Val)) : Bool := kvs.all fun p => keyT p.1
/-- the key suits the dict -/
def suits (kvs : List (Val × Val)) (k : Val) : Bool := (keyK k && allK kvs) || (keyT k && allT kvs)

/-- what a dict has at a key -/
def look (S : Sto) (o k : Val) : Option (Option Val) := match o with
  | .ref a => match S a with
    | some (.dic kvs) => if suits kvs k = true then some (dget kvs k) else none
    | some (.dlk kvs _ _) => if (keyK k && allK kvs) = true then some (dget kvs k) else none
    | _ => none
  | _ => none

/-! ### data -/
mutual
inductive Dv (S : Sto) : Val → PyData → Prop
  | non : Dv S .non .none
  | bl (b : Bool) : Dv S (.bl b) (.bool b)
  | int (i : Int) : Dv S (.int i) (.int i)
  | str (x : Str) : Dv S (.str x) (.str x)
  | tup {vs : List Val} {ds : List PyData} : Dvs S vs ds → Dv S (.tup vs) (.tuple ds)
  | lst {v : Val} {vs : List Val} {ds : List PyData} : lts S v = some vs → Dvs S vs ds → Dv S v (.list ds)
inductive Dvs (S : Sto) : List Val → List PyData → Prop
  | nil : Dvs S [] []
  | cons {v : Val} {d : PyData} {vs : List Val} {ds : List PyData} : Dv S v d → Dvs S vs ds → Dvs S (v :: vs) (d :: ds)
end
mutual
/-- a value without lists, as data -/
def Val.pd : Val → PyData
  | .non => .none
  | .bl b => .bool b
  | .int i => .int i
  | .str x => .str x
  | .tup vs => .tuple (Val.pds vs)
  | .scr _ => .none
  | .kt _ => .none
  | .ref _ => .none
  | .exn _ _ _ => .none
def Val.pds : List Val → List PyData
  | [] => []
  | v :: vs => v.pd :: Val.pds vs
end
mutual
def Val.pur : Val → Bool
  | .tup vs => Val.purs vs
  | .scr _ => false
  | .kt _ => false
  | .ref _ => false
  | .exn _ _ _ => false
  | _ => true
def Val.purs : List Val → Bool
  | [] => true
  | v :: vs => v.pur && Val.purs vs
end
mutual
theorem Dv.of_pur {S : Sto} : ∀ {v : Val}, v.pur = true → Dv S v v.pd
  | .non, _ => .non
  | .bl b, _ => .bl b
  | .int i, _ => .int i
  | .str x, _ => .str x
  | .tup vs, h => by unfold Val.pd; unfold Val.pur at h; exact .tup (Dvs.of_purs h)
  | .scr _, h => by cases h
  | .kt _, h => by cases h
  | .ref _, h => by cases h
  | .exn _ _ _, h => by cases h
theorem Dvs.of_purs {S : Sto} : ∀ {vs : List Val}, Val.purs vs = true → Dvs S vs (Val.pds vs)
  | [], _ => .nil
  | v :: vs, h => by
    unfold Val.purs at h
    rw [Bool.and_eq_true] at h
    unfold Val.pds
    exact .cons (Dv.of_pur h.1) (Dvs.of_purs h.2)
end
theorem pds_map : ∀ vs : List Val, Val.pds vs = vs.map Val.pd
  | [] => rfl
  | v :: vs => by rw [Val.pds, pds_map vs]; rfl

/-! ### what operators, built-ins, methods do -/
abbrev VP := Val → Sto → Prop
/-- an exception: its class, its field (without sign: none), what the field has -/
structure Exc where
  c : Str
  f : Str := Str.empty
  v : Val := .non
/-- the class c is x, or under it -/
def isSub (c x : Str) : Bool := c == x || (x == ("FocusError" : Str) || x == ("ValueError" : Str))
abbrev XP := Exc → Sto → Prop
def flatW : Val → Bool
  | .non => true
  | .bl _ => true
  | .int _ => true
  | .str _ => true
  | _ => false
def eqW : Val → Val → Bool
  | .non, .non => true
  | .bl a, .bl b => a == b
  | .bl a, .int b => (if a then 1 else 0) == b
  | .int a, .bl b => a == (if b then 1 else 0)
  | .int a, .int b => a == b
  | .str a, .str b => a == b
  | _, _ => false
def memW (x : Val) (vs : List Val) : Bool := vs.any fun y => eqW y x
def cut {α : Type} (xs : List α) (lo hi : Option Int) : List α := (xs.drop (HT.sIx xs.length 0 lo)).take (HT.sIx xs.length xs.length hi - HT.sIx xs.length 0 lo)
inductive Op where
  | add | sub | mul | fdiv | mod | pow
  deriving DecidableEq
inductive Cp where
  | eq | ne | lt | le | gt | ge | mem | nmem | isN | notN
  deriving DecidableEq
/-- x * j -/
def strRep (x : Str) (j : Int) : Str := ⟨((List.replicate j.toNat x.cps.toList).flatten).toArray⟩
def allo (S : Sto) (o : Ob) (P : VP) : Prop := ∀ p, S p = none → P (.ref p) (S.put p o)
def semAdd (v w : Val) (S : Sto) (P : VP) : Prop := match v, w with
  | .int i, .int j => P (.int (i + j)) S
  | .str x, .str y => x.length + y.length ≤ 16777216 ∧ P (.str (x ++ y)) S
  | .tup xs, .tup ys => xs.length + ys.length ≤ 16777216 ∧ P (.tup (xs ++ ys)) S
  | .ref a, .ref b => ∃ xs ys, S a = some (.lst xs) ∧ S b = some (.lst ys) ∧ xs.length + ys.length ≤ 16777216 ∧ allo S (.lst (xs ++ ys)) P
  | _, _ => False
def semOp (op : Op) (v w : Val) (S : Sto) (P : VP) : Prop := match op, v, w with
  | .add, v, w => semAdd v w S P
  | .sub, .int i, .int j => P (.int (i - j)) S
  | .mul, .int i, .int j => (CMul i j ∨ CMulW i j) ∧ P (.int (i * j)) S
  | .mul, .str x, .int j => j ≤ 1000 ∧ -1000 ≤ j ∧ x.length ≤ 1000 ∧ P (.str (strRep x j)) S
  | .fdiv, .int i, .int j => CDivW i j ∧ P (.int (i / j)) S
  | .mod, .int i, .int j => 0 < j ∧ P (.int (i % j)) S
  | .pow, .int i, .int j => CPow i j ∧ P (.int (i ^ j.toNat)) S
  | _, _, _ => False
/-- == -/
def semEq (v w : Val) (S : Sto) (P : Bool → Prop) : Prop := match v, w with
  | .int i, .int j => P (decide (i = j))
  | .str i, .str j => P (decide (i = j))
  | .bl i, .bl j => P (decide (i = j))
  | .non, .non => P true
  | .non, .int _ => P false
  | .non, .str _ => P false
  | .non, .bl _ => P false
  | .int _, .non => P false
  | .str _, .non => P false
  | .bl _, .non => P false
  | .int _, .str _ => P false
  | .str _, .int _ => P false
  | v, w => ∃ d e, Dv S v d ∧ Dv S w e ∧ SeqAt.shaped d = true ∧ SeqAt.shaped e = true ∧ P (PyData.eqv d e)
/-- x in c -/
def semIn (v w : Val) (S : Sto) (P : Bool → Prop) : Prop := match w with
  | .str z => ∃ c : Nat, v = .str ⟨#[c]⟩ ∧ P (decide (c ∈ z.cps.toList))
  | w => (∃ vs, its S w = some vs ∧ flatW v = true ∧ vs.all flatW = true ∧ P (memW v vs)) ∨
    (∃ d ds, Dv S v d ∧ Dv S w (.list ds) ∧ SeqAt.shaped d = true ∧ SeqAt.shaped (.list ds) = true ∧ P (ds.any fun z => PyData.eqv z d)) ∨
    ∃ r, look S w v = some r ∧ P r.isSome
def semCmp (op : Cp) (v w : Val) (S : Sto) (P : Bool → Prop) : Prop := match op with
  | .eq => semEq v w S P
  | .ne => semEq v w S fun b => P (!b)
  | .lt => match v, w with
    | .int i, .int j => P (decide (i < j))
    | .tup xs, .tup ys => ∃ ns ms : List Int, xs = ns.map Val.int ∧ ys = ms.map Val.int ∧ P (HT.lexLt ns ms)
    | _, _ => False
  | .le => match v, w with
    | .int i, .int j => P (decide (i ≤ j))
    | _, _ => False
  | .gt => match v, w with
    | .int i, .int j => P (decide (j < i))
    | _, _ => False
  | .ge => match v, w with
    | .int i, .int j => P (decide (j ≤ i))
    | _, _ => False
  | .mem => semIn v w S P
  | .nmem => semIn v w S fun b => P (!b)
  | .isN => w = .non ∧ P (decide (v = .non))
  | .notN => w = .non ∧ P (!decide (v = .non))
def semIx (o i : Val) (S : Sto) (P : VP) : Prop := match o, i with
  | .str z, .int i => z.length ≤ 16777216 ∧ ∃ c, atI z.cps.toList i = some c ∧ P (.str ⟨#[c]⟩) S
  | o, i => (∃ vs j v, its S o = some vs ∧ i = .int j ∧ atI vs j = some v ∧ P v S) ∨ ∃ v, look S o i = some (some v) ∧ P v S
def semSl (o : Val) (lo hi : Option Int) (S : Sto) (P : VP) : Prop := match o with
  | .str z => z.length ≤ 16777216 ∧ P (.str (cutS z lo hi)) S
  | .tup vs => P (.tup (cut vs lo hi)) S
  | o => ∃ vs, lts S o = some vs ∧ allo S (.lst (cut vs lo hi)) P
def semRev (o : Val) (S : Sto) (P : VP) : Prop := match o with
  | .tup vs => P (.tup vs.reverse) S
  | o => ∃ vs, lts S o = some vs ∧ allo S (.lst vs.reverse) P
inductive Bi where
  | len | int_ | str_ | list_ | tuple_ | max_ | min_ | abs_ | all_ | any_ | sorted_
  deriving DecidableEq
def semLen (v : Val) (S : Sto) (P : VP) : Prop := match v with
  | .str z => z.length ≤ 16777216 ∧ P (.int z.length) S
  | v => (∃ vs, its S v = some vs ∧ P (.int vs.length) S) ∨ ∃ kvs, dct S v = some kvs ∧ P (.int kvs.length) S
def semInt (v : Val) (S : Sto) (P : VP) : Prop := match v with
  | .int i => P (.int i) S
  | .bl b => P (.int (if b then 1 else 0)) S
  | .str x => ∃ n, PySem.intText? x = some n ∧ x.length ≤ 640 ∧ P (.int n) S
  | _ => False
def semStr (v : Val) (S : Sto) (P : VP) : Prop := match v with
  | .int i => i.natAbs.log2 < 1920 ∧ P (.str (toString i)) S
  | .str x => P (.str x) S
  | _ => False
def semList (v : Val) (S : Sto) (P : VP) : Prop :=
  (∃ vs, its S v = some vs ∧ allo S (.lst vs) P) ∨ ∃ kvs, dct S v = some kvs ∧ allo S (.lst (kvs.map (·.1))) P
def semTuple (v : Val) (S : Sto) (P : VP) : Prop := match v with
  | .tup vs => P (.tup vs) S
  | v => ∃ vs, lts S v = some vs ∧ P (.tup vs) S
def semAll (v : Val) (S : Sto) (P : VP) : Prop := ∃ bs : List Bool, lts S v = some (bs.map Val.bl) ∧ P (.bl (bs.all id)) S
def semAny (v : Val) (S : Sto) (P : VP) : Prop := ∃ bs : List Bool, lts S v = some (bs.map Val.bl) ∧ P (.bl (bs.any id)) S
/-- the order of sorted, over values without lists -/
def vle (a b : Val) : Bool := PySem.W.dataLe false Val.pd a b
def semSorted (v : Val) (S : Sto) (P : VP) : Prop := ∃ vs, lts S v = some vs ∧ Val.purs vs = true ∧ PySem.W.AllAlike (vs.map Val.pd) ∧ PySem.W.Sortable (vs.map Val.pd) ∧ (∀ v ∈ vs, v.pd.depth ≤ 60) ∧ allo S (.lst (vs.mergeSort vle)) P
/-- min of a list: of ints, or of things that sort by their data (the least, for the one that is) -/
def semMin (v : Val) (S : Sto) (P : VP) : Prop := (∃ ns : List Int, lts S v = some (ns.map Val.int) ∧ 0 < ns.length ∧ ∀ m, m ∈ ns → (∀ y, y ∈ ns → m ≤ y) → P (.int m) S) ∨
  ∃ vs, lts S v = some vs ∧ Val.purs vs = true ∧ PySem.W.AllAlike (vs.map Val.pd) ∧ PySem.W.Sortable (vs.map Val.pd) ∧ (∀ v ∈ vs, v.pd.depth ≤ 60) ∧ 0 < vs.length ∧ ∀ w ∈ vs, (∀ y ∈ vs, vle w y = true) → P w S
def semBi (b : Bi) (vs : List Val) (S : Sto) (P : VP) : Prop := match b, vs with
  | .len, [v] => semLen v S P
  | .int_, [v] => semInt v S P
  | .str_, [v] => semStr v S P
  | .list_, [v] => semList v S P
  | .tuple_, [v] => semTuple v S P
  | .max_, [.int i, .int j] => P (.int (if j > i then j else i)) S
  | .min_, [.int i, .int j] => P (.int (if j < i then j else i)) S
  | .max_, [v] => ∃ ns : List Int, lts S v = some (ns.map Val.int) ∧ 0 < ns.length ∧ ∀ m, m ∈ ns → (∀ y, y ∈ ns → y ≤ m) → P (.int m) S
  | .min_, [v] => semMin v S P
  | .abs_, [.int i] => P (.int (if i < 0 then -i else i)) S
  | .all_, [v] => semAll v S P
  | .any_, [v] => semAny v S P
  | .sorted_, [v] => semSorted v S P
  | _, _ => False
inductive Mt where
  | append | extend | index | pop | clear | get | setdefault | join | split | upper | remove
  deriving DecidableEq
/-- the built-in type whose method it is -/
inductive MT where
  | list | dict | str | tuple
  deriving DecidableEq
def mtTy (m : Mt) (v : Val) (S : Sto) : Option MT := match m, v with
  | .append, .ref a => if (lts S (.ref a)).isSome then some .list else none
  | .extend, .ref a => if (lts S (.ref a)).isSome then some .list else none
  | .clear, .ref a => if (lts S (.ref a)).isSome then some .list else none
  | .remove, .ref a => if (lts S (.ref a)).isSome then some .list else none
  | .index, .kt _ => some .tuple
  | .index, v => if (lts S v).isSome then some .list else none
  | .pop, .ref a => if (lts S (.ref a)).isSome then some .list else if (dct S (.ref a)).isSome then some .dict else none
  | .get, .ref a => if (dct S (.ref a)).isSome then some .dict else none
  | .setdefault, .ref a => if (dct S (.ref a)).isSome then some .dict else none
  | .join, .str _ => some .str
  | .split, .str _ => some .str
  | .upper, .str _ => some .str
  | _, _ => none
def semMt (m : Mt) (T : MT) (o : Val) (vs : List Val) (S : Sto) (P : VP) : Prop := match m, T, vs with
  | .append, .list, [v] => ∃ a xs, o = .ref a ∧ S a = some (.lst xs) ∧ xs.length < 16777216 ∧ P .non (S.put a (.lst (xs ++ [v])))
  | .extend, .list, [v] => ∃ a b xs ys, o = .ref a ∧ v = .ref b ∧ S a = some (.lst xs) ∧ S b = some (.lst ys) ∧ xs.length + ys.length ≤ 16777216 ∧ P .non (S.put a (.lst (xs ++ ys)))
  | .index, .list, [v] => ∃ xs j z, lts S o = some xs ∧ flatW v = true ∧ xs.all flatW = true ∧ xs[j]? = some z ∧ eqW z v = true ∧ (∀ (i : Nat) y, i < j → xs[i]? = some y → eqW y v = false) ∧ P (.int (j : Nat)) S
  | .index, .tuple, [v] => ∃ (ys : List Str) (z : Str) (j : Nat), o = .kt (ys.map Val.str) ∧ v = .str z ∧ ys[j]? = some z ∧ (∀ m, m < j → ys[m]? ≠ some z) ∧ P (.int (j : Nat)) S
  | .pop, .list, [] => ∃ a xs y, o = .ref a ∧ S a = some (.lst xs) ∧ xs[xs.length - 1]? = some y ∧ P y (S.put a (.lst xs.dropLast))
  | .pop, .list, [i] => ∃ a xs j k y, o = .ref a ∧ i = .int j ∧ S a = some (.lst xs) ∧ -(2 ^ 63) ≤ j ∧ j < 2 ^ 63 ∧ seqIndex? j xs.length = some k ∧ xs[k]? = some y ∧ P y (S.put a (.lst (xs.eraseIdx k)))
  | .pop, .dict, [i] => ∃ a kvs v, o = .ref a ∧ S a = some (.dic kvs) ∧ keyK i = true ∧ allK kvs = true ∧ dget kvs i = some v ∧ P v (S.put a (.dic (ddrop kvs i)))
  | .clear, .list, [] => ∃ a xs, o = .ref a ∧ S a = some (.lst xs) ∧ P .non (S.put a (.lst []))
  | .remove, .list, [v] => ∃ (a : Addr) (ys : List Str) (z : Str) (j : Nat), o = .ref a ∧ v = .str z ∧ S a = some (.lst (ys.map Val.str)) ∧ ys[j]? = some z ∧ (∀ m, m < j → ys[m]? ≠ some z) ∧ P .non (S.put a (.lst ((ys.eraseIdx j).map Val.str)))
  | .setdefault, .dict, [k, d] => ∃ a kvs, o = .ref a ∧ S a = some (.dic kvs) ∧ suits kvs k = true ∧ kvs.length < 16777216 ∧ (match dget kvs k with | some v => P v S | none => P d (S.put a (.dic (dput kvs k d))))
  | .get, .dict, [k] => ∃ r, look S o k = some r ∧ P (r.getD .non) S
  | .get, .dict, [k, d] => ∃ r, look S o k = some r ∧ P (r.getD d) S
  | .join, .str, [v] => ∃ (z : Str) (ys : List Str), o = .str z ∧ its S v = some (ys.map Val.str) ∧ (ys.map Str.length).sum + ys.length * z.length ≤ 16777216 ∧ P (.str (Txt.join z ys)) S
  | .split, .str, [v] => ∃ x z : Str, o = .str x ∧ v = .str z ∧ (z.length == 0) = false ∧ x.length + 2 ≤ 16777216 ∧ allo S (.lst ((Txt.split x z).map Val.str)) P
  | .upper, .str, [] => ∃ x : Str, o = .str x ∧ x.length ≤ 5592405 ∧ P (.str (Txt.upper x)) S
  | _, _, _ => False
/-- o[i] = v -/
def semSet (o i v : Val) (S : Sto) (P : Sto → Prop) : Prop :=
  (∃ a xs k j, o = .ref a ∧ i = .int k ∧ S a = some (.lst xs) ∧ ixN xs.length k = some j ∧ P (S.put a (.lst (xs.set j v)))) ∨
    ∃ a kvs, o = .ref a ∧ S a = some (.dic kvs) ∧ suits kvs i = true ∧ kvs.length < 16777216 ∧ P (S.put a (.dic (dput kvs i v)))
inductive Ty where
  | int | bool | str | tuple | list
  deriving DecidableEq
def semIsi (v : Val) (t : Ty) (S : Sto) (P : Bool → Prop) : Prop := match v with
  | .non => P false
  | .bl _ => P (decide (t = .bool) || decide (t = .int))
  | .int _ => P (decide (t = .int))
  | .str _ => P (decide (t = .str))
  | .tup _ => P (decide (t = .tuple))
  | .kt _ => P (decide (t = .tuple))
  | .scr _ => P (decide (t = .list))
  | .exn _ _ _ => False
  | .ref a => match S a with
    | some (.lst _) => P (decide (t = .list))
    | some (.dic _) => P false
    | _ => False

/-- isinstance of classes of exceptions; cs: those that are known -/
def semIsx (cs xs : List Str) (v : Val) (S : Sto) (P : Bool → Prop) : Prop := match v with
  | .exn c _ _ => c ∈ cs ∧ P (xs.any (isSub c))
  | .non => P false
  | .tup _ => P false
  | .ref a => match S a with
    | some (.lst _) => P false
    | _ => False
  | _ => False
/-- a field of an instance set -/
def fput (f : Str) (v : Val) : List (Str × Val) → List (Str × Val)
  | [] => [(f, v)]
  | (g, x) :: r => if g = f then (g, v) :: r else (g, x) :: fput f v r

/-! ### the language -/
mutual
inductive E where
  | var (i : Nat)
  | con (v : Val)
  | glo (x : Str) (v : Val)
  | bin (op : Op) (a b : E)
  | neg (a : E)
  | cmp (op : Cp) (a b : E)
  | band (es : Es)
  | bor (es : Es)
  | not (a : E)
  | tup (es : Es)
  | lst (es : Es)
  | dic (es : Es)
  | ix (a b : E)
  | sl (a : E) (lo hi : Eo)
  | rev (a : E)
  | call (f : Nat) (es : Es)
  | blt (b : Bi) (es : Es)
  | mth (m : Mt) (o : E) (es : Es)
  | isi (a : E) (t : Ty)
  | kin (neg : Bool) (a : E) (x : Str) (kvs : List (Str × Val))
  | kix (x : Str) (kvs : List (Str × Val)) (a : E)
  | lc (own : List Nat) (tg : List Nat) (one : Bool) (it : It) (c : Eo) (e : E)
  | lrng (a : E)
  /-- list(a.values()) -/
  | lvals (a : E)
  /-- isinstance(a, x), isinstance(a, (x, ..)) of classes of exceptions -/
  | isx (a : E) (one : Bool) (cs xs : List Str)
  /-- a.f of an exception -/
  | xfld (a : E) (cs : List Str) (f : Str)
  /-- a.f of an instance of c -/
  | fld (c : Str) (a : E) (f : Str)
  /-- c(..), the def f its __init__ -/
  | new (c : Str) (f : Nat) (es : Es)
  /-- o.m(..), the def f of the class c -/
  | met (c m : Str) (f : Nat) (o : E) (es : Es)
inductive Es where
  | nil
  | cons (e : E) (es : Es)
inductive Eo where
  | no
  | yes (e : E)
inductive It where
  | seq (e : E)
  | keys (e : E)
  | rng1 (a : E)
  | rng2 (a b : E)
  | rev (a : E)
  | revr (a : E)
  | enum (a : E)
  | zip2 (a b : E)
  | zip3 (a b c : E)
end
inductive Tg where
  | nm (i : Nat)
  | tp (is : List Nat)
mutual
inductive St1 where
  | set (i : Nat) (e : E)
  | unp (is : List Nat) (e : E)
  | sub (o i e : E)
  | drop (e : E)
  | ite (c : E) (a b : Sts)
  | wh (c : E) (b : Sts)
  | for_ (tg : Tg) (it : It) (b : Sts)
  | ret (e : E)
  | retN
  /-- raise c(..), with its field -/
  | raise (c f : Str) (e : Eo)
  /-- a.f = e of an instance of c -/
  | att (c : Str) (a : E) (f : Str) (e : E)
  /-- try: b, except x as i: h -/
  | try_ (b : Sts) (x : Str) (cs : List Str) (i : Option Nat) (h : Sts)
  | lks (i : Nat) (s : St1)
inductive Sts where
  | nil
  | cons (s : St1) (r : Sts)
end

/-! ### what it means -/
def pairsOf : List Val → Option (List (Val × Val))
  | [] => some []
  | [_] => none
  | k :: v :: r => match pairsOf r with
    | some ps => some ((k, v) :: ps)
    | none => none
abbrev Env := List (Option Val)
abbrev CallSem := Nat → List Val → Sto → VP → XP → Prop
def wipeE (ρ : Env) : List Nat → Env
  | [] => ρ
  | v :: vs => (wipeE ρ vs).set v none
def stores : List Nat → List Val → Env → Env
  | i :: is, v :: vs, ρ => stores is vs (ρ.set i (some v))
  | _, _, ρ => ρ
def asgT (t : Tg) (v : Val) (ρ : Env) (P : Env → Prop) : Prop := match t with
  | .nm i => P (ρ.set i (some v))
  | .tp is => ∃ vs, v = .tup vs ∧ vs.length = is.length ∧ P (stores is vs ρ)
/-- an except suite starts, ends -/
def inE (j : Option Nat) (e : Exc) (ρ : Env) : Env := match j with
  | some i => ρ.set i (some (.exn e.c e.f e.v))
  | none => ρ
def outE (j : Option Nat) (ρ : Env) : Env := match j with
  | some i => ρ.set i none
  | none => ρ
/-- what is walked: the items, and what must stay as it is meanwhile -/
structure Wk where
  xs : List Val
  a : Option (Addr × List Val) := none
  b : Option (Addr × List Val) := none
  d : Option (Addr × Ob) := none
def Wk.ok (w : Wk) (S : Sto) : Prop := match w.d with
  | some (d, o) => S d = some o
  | none => match w.a, w.b with
    | none, none => True
    | some (a, vs), none => S a = some (.lst vs)
    | none, some (b, ws) => S b = some (.lst ws)
    | some (a, vs), some (b, ws) => S a = some (.lst vs) ∧ S b = some (.lst ws)
/-- a list of the store -/
def trk (S : Sto) (v : Val) : Option (Addr × List Val) := match v with
  | .ref a => match S a with
    | some (.lst vs) => some (a, vs)
    | _ => none
  | _ => none
def isT : Val → Bool
  | .tup _ => true
  | .kt _ => true
  | _ => false
def zipL (xs ys : List Val) : List Val := List.zipWith (fun x y => .tup [x, y]) xs ys
def zip3L : List Val → List Val → List Val → List Val
  | x :: xs, y :: ys, z :: zs => .tup [x, y, z] :: zip3L xs ys zs
  | _, _, _ => []
def wkOf (S : Sto) (v : Val) (xs : List Val → List Val) : Option Wk := match v with
  | .tup vs => some ⟨xs vs, none, none, none⟩
  | .scr vs => some ⟨xs vs, none, none, none⟩
  | .kt vs => some ⟨xs vs, none, none, none⟩
  | .ref a => match S a with
    | some (.lst vs) => some ⟨xs vs, some (a, vs), none, none⟩
    | _ => none
  | _ => none
def enumL (vs : List Val) : Nat → List Val
  | k => match vs with
    | [] => []
    | v :: r => .tup [.int (k : Nat), v] :: enumL r (k + 1)
def signs (z : Str) : List Val := z.cps.toList.map fun c => .str ⟨#[c]⟩
def rngL (lo : Int) (n : Nat) : List Val := (List.range n).map fun i => .int (lo + (i : Nat))
def small62 (i : Int) : Prop := -(2 ^ 62) ≤ i ∧ i < 2 ^ 62
/-- the turns of a comprehension -/
def lcLoop (ok : Sto → Prop) (turn : Val → Sto → (Option Val → Sto → Prop) → Prop) : List Val → List Val → Sto → (List Val → Sto → Prop) → Prop
  | [], acc, S, P => ok S ∧ P acc S
  | x :: xs, acc, S, P => ok S ∧ turn x S fun r S' => match r with
    | some v => acc.length < 16777216 ∧ lcLoop ok turn xs (acc ++ [v]) S' P
    | none => lcLoop ok turn xs acc S' P
section
variable (C : CallSem)
mutual
def ev : E → Env → Sto → VP → XP → Prop
  | .var i, ρ, S, P, X => ∃ v, ρ[i]? = some (some v) ∧ P v S
  | .con v, _, S, P, _ => P v S
  | .glo _ v, _, S, P, _ => P v S
  | .bin op a b, ρ, S, P, X => ev a ρ S (fun v S1 => ev b ρ S1 (fun w S2 => semOp op v w S2 P) X) X
  | .neg a, ρ, S, P, X => ev a ρ S (fun v S1 => ∃ i, v = .int i ∧ P (.int (-i)) S1) X
  | .cmp op a b, ρ, S, P, X => ev a ρ S (fun v S1 => ev b ρ S1 (fun w S2 => semCmp op v w S2 fun c => P (.bl c) S2) X) X
  | .band es, ρ, S, P, X => evAnd es ρ S P X
  | .bor es, ρ, S, P, X => evOr es ρ S P X
  | .not a, ρ, S, P, X => ev a ρ S (fun v S1 => ∃ b, v = .bl b ∧ P (.bl (!b)) S1) X
  | .tup es, ρ, S, P, X => evs es ρ S (fun vs S1 => vs.length ≤ 16777216 ∧ P (.tup vs) S1) X
  | .lst es, ρ, S, P, X => evs es ρ S (fun vs S1 => vs.length ≤ 16777216 ∧ allo S1 (.lst vs) P) X
  | .dic es, ρ, S, P, X => evs es ρ S (fun vs S1 => vs.length ≤ 30 ∧ ∃ ps, pairsOf vs = some ps ∧ allK ps = true ∧ allo S1 (.dic (ps.foldl (fun d p => dput d p.1 p.2) [])) P) fun _ _ => False
  | .ix a b, ρ, S, P, X => ev a ρ S (fun v S1 => ev b ρ S1 (fun w S2 => semIx v w S2 P) X) X
  | .sl a lo hi, ρ, S, P, X => ev a ρ S (fun v S1 => evo lo ρ S1 (fun l S2 => evo hi ρ S2 (fun h S3 => semSl v l h S3 P) X) X) X
  | .rev a, ρ, S, P, X => ev a ρ S (fun v S1 => semRev v S1 P) X
  | .call f es, ρ, S, P, X => evs es ρ S (fun vs S1 => C f vs S1 P X) X
  | .blt b es, ρ, S, P, X => evs es ρ S (fun vs S1 => semBi b vs S1 P) X
  | .mth m o es, ρ, S, P, X => ev o ρ S (fun v S1 => ∃ T, mtTy m v S1 = some T ∧ evs es ρ S1 (fun vs S2 => semMt m T v vs S2 P) X) X
  | .isi a t, ρ, S, P, X => ev a ρ S (fun v S1 => semIsi v t S1 fun b => P (.bl b) S1) X
  | .kin neg a _ kvs, ρ, S, P, X => ev a ρ S (fun v S1 => ∃ z, v = .str z ∧ P (.bl (if neg then !(kvs.lookup z).isSome else (kvs.lookup z).isSome)) S1) X
  | .kix _ kvs a, ρ, S, P, X => ev a ρ S (fun v S1 => ∃ z w, v = .str z ∧ kvs.lookup z = some w ∧ P w S1) X
  | .lvals a, ρ, S, P, X => ev a ρ S (fun v S1 => ∃ p kvs, v = .ref p ∧ S1 p = some (.dic kvs) ∧ allK kvs = true ∧ allo S1 (.lst (kvs.map (·.2))) P) X
  | .lrng a, ρ, S, P, X => ev a ρ S (fun v S1 => ∃ n, v = .int n ∧ -1000000 ≤ n ∧ n ≤ 1000000 ∧ allo S1 (.lst (rngL 0 n.toNat)) P) X
  | .lc own tg one it c e, ρ, S, P, X => evIt it ρ S (fun w S1 =>
      lcLoop w.ok (fun x S2 K => asgT (if one then .nm (tg.headD 0) else .tp tg) x (wipeE ρ own) fun ρ' =>
        evc c ρ' S2 (fun b S3 => if b then ev e ρ' S3 (fun v S4 => K (some v) S4) (fun _ _ => False) else K none S3) (fun _ _ => False)) w.xs [] S1 fun acc S2 => allo S2 (.lst acc) P) X
  | .isx a _ cs xs, ρ, S, P, X => ev a ρ S (fun v S1 => semIsx cs xs v S1 fun b => P (.bl b) S1) X
  | .xfld a cs f, ρ, S, P, X => ev a ρ S (fun v S1 => ∃ c w, v = .exn c f w ∧ c ∈ cs ∧ f ≠ Str.empty ∧ P w S1) X
  | .fld c a f, ρ, S, P, X => ev a ρ S (fun v S1 => ∃ p fs w, v = .ref p ∧ S1 p = some (.ins c fs) ∧ fs.lookup f = some w ∧ P w S1) X
  | .new c f es, ρ, S, P, X => evs es ρ S (fun vs S1 => ∀ p, S1 p = none → C f (.ref p :: vs) (S1.put p (.ins c [])) (fun v S2 => v = .non ∧ P (.ref p) S2) X) X
  | .met c m f o es, ρ, S, P, X => ev o ρ S (fun v S1 => ∃ p fs, v = .ref p ∧ S1 p = some (.ins c fs) ∧ fs.lookup m = none ∧ evs es ρ S1 (fun vs S2 => C f (v :: vs) S2 P X) X) X
def evs : Es → Env → Sto → (List Val → Sto → Prop) → XP → Prop
  | .nil, _, S, P, _ => P [] S
  | .cons e es, ρ, S, P, X => ev e ρ S (fun v S1 => evs es ρ S1 (fun vs S2 => P (v :: vs) S2) X) X
/-- and, or as values (all are truths) -/
def evAnd : Es → Env → Sto → VP → XP → Prop
  | .nil, _, _, _, _ => False
  | .cons e es, ρ, S, P, X => ev e ρ S (fun v S1 => ∃ b, v = .bl b ∧ match es with
      | .nil => P (.bl b) S1
      | es => if b then evAnd es ρ S1 P X else P (.bl false) S1) X
def evOr : Es → Env → Sto → VP → XP → Prop
  | .nil, _, _, _, _ => False
  | .cons e es, ρ, S, P, X => ev e ρ S (fun v S1 => ∃ b, v = .bl b ∧ match es with
      | .nil => P (.bl b) S1
      | es => if b then P (.bl true) S1 else evOr es ρ S1 P X) X
def evo : Eo → Env → Sto → (Option Int → Sto → Prop) → XP → Prop
  | .no, _, S, P, _ => P none S
  | .yes e, ρ, S, P, X => ev e ρ S (fun v S1 => ∃ i, v = .int i ∧ P (some i) S1) X
def evc : Eo → Env → Sto → (Bool → Sto → Prop) → XP → Prop
  | .no, _, S, P, _ => P true S
  | .yes e, ρ, S, P, X => ev e ρ S (fun v S1 => ∃ b, v = .bl b ∧ P b S1) X
def evIt : It → Env → Sto → (Wk → Sto → Prop) → XP → Prop
  | .seq e, ρ, S, P, X => ev e ρ S (fun v S1 => match v with
      | .str z => P ⟨signs z, none, none, none⟩ S1
      | v => ∃ w, wkOf S1 v id = some w ∧ P w S1) X
  | .keys e, ρ, S, P, X => ev e ρ S (fun v S1 => ∃ d kvs o t, v = .ref d ∧ S1 d = some (.dlk kvs o t) ∧ P ⟨kvs.map (·.1), none, none, some (d, .dlk kvs o t)⟩ S1) X
  | .rng1 a, ρ, S, P, X => ev a ρ S (fun v S1 => ∃ n, v = .int n ∧ small62 n ∧ P ⟨rngL 0 n.toNat, none, none, none⟩ S1) X
  | .rng2 a b, ρ, S, P, X => ev a ρ S (fun v S1 => ev b ρ S1 (fun w S2 => ∃ m n, v = .int m ∧ w = .int n ∧ small62 m ∧ small62 n ∧ P ⟨rngL m (n - m).toNat, none, none, none⟩ S2) X) X
  | .rev a, ρ, S, P, X => ev a ρ S (fun v S1 => ∃ w, wkOf S1 v List.reverse = some w ∧ P w S1) X
  | .revr a, ρ, S, P, X => ev a ρ S (fun v S1 => ∃ n, v = .int n ∧ small62 n ∧ P ⟨(rngL 0 n.toNat).reverse, none, none, none⟩ S1) X
  | .enum a, ρ, S, P, X => ev a ρ S (fun v S1 => ∃ w, wkOf S1 v (fun vs => enumL vs 0) = some w ∧ P w S1) X
  | .zip2 a b, ρ, S, P, X => ev a ρ S (fun v S1 => ev b ρ S1 (fun u S2 => ∃ xs ys, its S2 v = some xs ∧ its S2 u = some ys ∧ isT v = isT u ∧ P ⟨zipL xs ys, trk S2 v, trk S2 u, none⟩ S2) X) X
  | .zip3 a b c, ρ, S, P, X => ev a ρ S (fun v S1 => ev b ρ S1 (fun u S2 => ev c ρ S2 (fun t S3 => ∃ xs ys zs, its S3 v = some xs ∧ its S3 u = some ys ∧ its S3 t = some zs ∧ isT v = true ∧ isT u = true ∧ isT t = true ∧ P ⟨zip3L xs ys zs, none, none, none⟩ S3) X) X) X
end
structure EndsE where
  nx : Env → Sto → Prop
  rt : VP
  xp : Env → XP
def whileL (c : Env → Sto → (Bool → Sto → Prop) → Prop) (b : Env → Sto → (Env → Sto → Prop) → Prop) (nx : Env → Sto → Prop) : Nat → Env → Sto → Prop
  | 0, _, _ => False
  | n + 1, ρ, S => c ρ S fun t S1 => if t then b ρ S1 (whileL c b nx n) else nx ρ S1
def forL (ok : Sto → Prop) (tg : Tg) (b : Env → Sto → (Env → Sto → Prop) → Prop) (nx : Env → Sto → Prop) : List Val → Env → Sto → Prop
  | [], ρ, S => ok S ∧ nx ρ S
  | x :: xs, ρ, S => ok S ∧ asgT tg x ρ fun ρ' => b ρ' S (forL ok tg b nx xs)
mutual
def ex1 : St1 → Env → Sto → EndsE → Prop
  | .set i e, ρ, S, D => ev C e ρ S (fun v S1 => D.nx (ρ.set i (some v)) S1) (D.xp ρ)
  | .unp is e, ρ, S, D => ev C e ρ S (fun v S1 => ∃ vs, v = .tup vs ∧ vs.length = is.length ∧ D.nx (stores is vs ρ) S1) (D.xp ρ)
  | .sub o i e, ρ, S, D => ev C e ρ S (fun v S1 => ev C o ρ S1 (fun o S2 => ev C i ρ S2 (fun i S3 => semSet o i v S3 fun S4 => D.nx ρ S4) (D.xp ρ)) (D.xp ρ)) (D.xp ρ)
  | .drop e, ρ, S, D => ev C e ρ S (fun _ S1 => D.nx ρ S1) (D.xp ρ)
  | .ite c a b, ρ, S, D => ev C c ρ S (fun v S1 => ∃ t, v = .bl t ∧ if t then exs a ρ S1 D else exs b ρ S1 D) (D.xp ρ)
  | .wh c b, ρ, S, D => ∃ n, whileL (fun ρ S K => ev C c ρ S (fun v S1 => ∃ t, v = .bl t ∧ K t S1) (D.xp ρ)) (fun ρ S K => exs b ρ S { D with nx := K }) D.nx n ρ S
  | .for_ tg it b, ρ, S, D => evIt C it ρ S (fun w S1 => forL w.ok tg (fun ρ S K => exs b ρ S { D with nx := K }) D.nx w.xs ρ S1) (D.xp ρ)
  | .ret e, ρ, S, D => ev C e ρ S D.rt (D.xp ρ)
  | .retN, ρ, S, D => D.rt .non S
  | .raise c f e, ρ, S, D => match e with
    | .no => D.xp ρ ⟨c, Str.empty, .non⟩ S
    | .yes e => ev C e ρ S (fun v S1 => D.xp ρ ⟨c, f, v⟩ S1) (D.xp ρ)
  | .att c a f e, ρ, S, D => ev C e ρ S (fun v S1 => ev C a ρ S1 (fun o S2 => ∃ p fs, o = .ref p ∧ S2 p = some (.ins c fs) ∧ fs.length < 1000 ∧ D.nx ρ (S2.put p (.ins c (fput f v fs)))) (D.xp ρ)) (D.xp ρ)
  | .try_ b x cs i h, ρ, S, D => exs b ρ S ⟨D.nx, D.rt, fun ρ1 e S1 => e.c ∈ cs ∧ if isSub e.c x then exs h (inE i e ρ1) S1 ⟨fun ρ2 S2 => D.nx (outE i ρ2) S2, D.rt, fun _ _ _ => False⟩ else D.xp ρ1 e S1⟩
  | .lks i s, ρ, S, D => ∃ d kvs, ρ[i]? = some (some (.ref d)) ∧ S d = some (.dic kvs) ∧ allK kvs = true ∧ ∀ o t, ex1 s ρ (S.put d (.dlk kvs o t)) ⟨fun ρ1 S1 => S1 d = some (.dlk kvs o t) ∧ D.nx ρ1 (S1.put d (.dic kvs)), fun v S1 => S1 d = some (.dlk kvs o t) ∧ D.rt v (S1.put d (.dic kvs)), fun _ _ _ => False⟩
def exs : Sts → Env → Sto → EndsE → Prop
  | .nil, ρ, S, D => D.nx ρ S
  | .cons s r, ρ, S, D => ex1 s ρ S { D with nx := fun ρ1 S1 => exs r ρ1 S1 D }
end
end
/-- a def of the text -/
structure Fn where
  name : Str
  np : Nat
  N : List Str
  body : Sts
  /-- a method: of which class -/
  cls : Option Str := none
/-- a call, by at most so many levels -/
def callF (T : List Fn) : Nat → CallSem
  | 0, _, _, _, _, _ => False
  | n + 1, f, vs, S, P, X => ∃ fn, T[f]? = some fn ∧ vs.length = fn.np ∧ exs (callF T n) fn.body (vs.map some ++ List.replicate (fn.N.length - vs.length) none) S ⟨fun _ S1 => P .non S1, P, fun _ => X⟩
end FW

set_option Elab.async false
set_option linter.all false
set_option maxRecDepth 100000
/-! The check of the small language against the row's tree. -/
namespace FW
open PySem PySem.Spec PyProof.Rows L2

/-! ### taking a tree apart -/
def dName : Expr → Option Str
  | .Name x _ => some x
  | _ => none
theorem dName_eq {e : Expr} {x : Str} (h : dName e = some x) : ∃ p, e = .Name x p := by
  unfold dName at h; split at h <;> cases h; exact ⟨_, rfl⟩
def dConst : Expr → Option Const
  | .Constant c _ _ => some c
  | _ => none
theorem dConst_eq {e : Expr} {c : Const} (h : dConst e = some c) : ∃ k p, e = .Constant c k p := by
  unfold dConst at h; split at h <;> cases h; exact ⟨_, _, rfl⟩
def dBin : Expr → Option (Expr × Operator × Expr)
  | .BinOp a o b _ => some (a, o, b)
  | _ => none
theorem dBin_eq {e a b : Expr} {o : Operator} (h : dBin e = some (a, o, b)) : ∃ p, e = .BinOp a o b p := by
  unfold dBin at h; split at h <;> cases h; exact ⟨_, rfl⟩
def dUn : Expr → Option (UnaryOp × Expr)
  | .UnaryOp o a _ => some (o, a)
  | _ => none
theorem dUn_eq {e a : Expr} {o : UnaryOp} (h : dUn e = some (o, a)) : ∃ p, e = .UnaryOp o a p := by
  unfold dUn at h; split at h <;> cases h; exact ⟨_, rfl⟩
def dBool : Expr → Option (BoolOp × List Expr)
  | .BoolOp o es _ => some (o, es)
  | _ => none
theorem dBool_eq {e : Expr} {o : BoolOp} {es : List Expr} (h : dBool e = some (o, es)) : ∃ p, e = .BoolOp o es p := by
  unfold dBool at h; split at h <;> cases h; exact ⟨_, rfl⟩
def dCmp : Expr → Option (Expr × CmpOp × Expr)
  | .Compare a [o] [b] _ => some (a, o, b)
  | _ => none
theorem dCmp_eq {e a b : Expr} {o : CmpOp} (h : dCmp e = some (a, o, b)) : ∃ p, e = .Compare a [o] [b] p := by
  unfold dCmp at h; split at h <;> cases h; exact ⟨_, rfl⟩
def dTup : Expr → Option (List Expr)
  | .Tuple es _ _ => some es
  | _ => none
theorem dTup_eq {e : Expr} {es : List Expr} (h : dTup e = some es) : ∃ k p, e = .Tuple es k p := by
  unfold dTup at h; split at h <;> cases h; exact ⟨_, _, rfl⟩
def dLst : Expr → Option (List Expr)
  | .List es _ => some es
  | _ => none
theorem dLst_eq {e : Expr} {es : List Expr} (h : dLst e = some es) : ∃ p, e = .List es p := by
  unfold dLst at h; split at h <;> cases h; exact ⟨_, rfl⟩
def dDic : Expr → Option (List (Option Expr) × List Expr)
  | .Dict ks vs _ => some (ks, vs)
  | _ => none
theorem dDic_eq {e : Expr} {ks : List (Option Expr)} {vs : List Expr} (h : dDic e = some (ks, vs)) : ∃ p, e = .Dict ks vs p := by
  unfold dDic at h; split at h <;> cases h; exact ⟨_, rfl⟩
def noSl : Expr → Bool
  | .Slice .. => false
  | _ => true
theorem noSl_ix {b : Expr} (h : noSl b = true) : ∀ o i, subscripted b false o i = operate [o, i] (getItem o i) := by
  cases b <;> first | (intro _ _; rfl) | cases h
def dSub : Expr → Option (Expr × Expr)
  | .Subscript a b _ => some (a, b)
  | _ => none
theorem dSub_eq {e a b : Expr} (h : dSub e = some (a, b)) : ∃ p, e = .Subscript a b p := by
  unfold dSub at h; split at h <;> cases h; exact ⟨_, rfl⟩
def dSl : Expr → Option (Option Expr × Option Expr)
  | .Slice lo hi none _ => some (lo, hi)
  | _ => none
theorem dSl_eq {e : Expr} {lo hi : Option Expr} (h : dSl e = some (lo, hi)) : ∃ p, e = .Slice lo hi none p := by
  unfold dSl at h; split at h <;> cases h; exact ⟨_, rfl⟩
def isRev : Expr → Bool
  | .Slice none none (some (.UnaryOp .USub (.Constant (.int 1) _ _) _)) _ => true
  | _ => false
theorem isRev_eq {e : Expr} (h : isRev e = true) : ∃ k p1 p2 p3, e = .Slice none none (some (.UnaryOp .USub (.Constant (.int 1) k p1) p2)) p3 := by
  unfold isRev at h; split at h
  · exact ⟨_, _, _, _, rfl⟩
  · cases h
def dCall : Expr → Option (Str × List Expr)
  | .Call (.Name x _) es [] _ => some (x, es)
  | _ => none
theorem dCall_eq {e : Expr} {x : Str} {es : List Expr} (h : dCall e = some (x, es)) : ∃ p pos, e = .Call (.Name x p) es [] pos := by
  unfold dCall at h; split at h <;> cases h; exact ⟨_, _, rfl⟩
def dMeth : Expr → Option (Expr × Str × List Expr)
  | .Call (.Attribute o m apos) es [] pos => if apos.endLine == pos.line then some (o, m, es) else none
  | _ => none
theorem dMeth_eq {e o : Expr} {m : Str} {es : List Expr} (h : dMeth e = some (o, m, es)) : ∃ apos pos, e = .Call (.Attribute o m apos) es [] pos ∧ (apos.endLine == pos.line) = true := by
  unfold dMeth at h
  split at h
  · split at h <;> cases h
    exact ⟨_, _, rfl, by assumption⟩
  · cases h
def dLc : Expr → Option (Expr × Expr × Expr × List Expr × Scope)
  | .ListComp elt [⟨tg, iter, ifs, 0⟩] scope _ => some (elt, tg, iter, ifs, scope)
  | _ => none
theorem dLc_eq {e elt tg iter : Expr} {ifs : List Expr} {scope : Scope} (h : dLc e = some (elt, tg, iter, ifs, scope)) : ∃ pos, e = .ListComp elt [⟨tg, iter, ifs, 0⟩] scope pos := by
  unfold dLc at h; split at h <;> cases h; exact ⟨_, rfl⟩
def dAttr : Expr → Option (Expr × Str)
  | .Attribute o f _ => some (o, f)
  | _ => none
theorem dAttr_eq {e o : Expr} {f : Str} (h : dAttr e = some (o, f)) : ∃ p, e = .Attribute o f p := by
  unfold dAttr at h; split at h <;> cases h; exact ⟨_, rfl⟩
def noStar : Expr → Bool
  | .Starred .. => false
  | _ => true
theorem noStar_each {e : Expr} (h : noStar e = true) (es : List Expr) (env : PySem.Env) : starEach (e :: es) env = (false, eval e env) :: starEach es env := by
  cases e <;> first | rfl | cases h
def notSuper : Expr → Bool
  | .Call (.Name _ _) [] [] _ => false
  | _ => true
theorem notSuper_base {o : Expr} (h : notSuper o = true) (m : Str) (env : PySem.Env) (w : Sem Value) : attributeBase o m env w = w := by
  unfold attributeBase
  split
  · cases h
  · rfl

/-! ### the checks -/
def visB (sc : Scope) (x : Str) : Bool := match sc.names.lookup x with
  | some .local => true
  | some .cell => true
  | some .free => true
  | _ => false
theorem visB_ok {sc : Scope} {x : Str} (h : visB sc x = true) : Vis sc x := by
  unfold visB at h
  split at h
  · exact .inl (by assumption)
  · exact .inr (.inl (by assumption))
  · exact .inr (.inr (by assumption))
  · cases h
def locB (sc : Scope) (x : Str) : Bool := match sc.names.lookup x with
  | some .local => true
  | some .cell => true
  | _ => false
theorem locB_ok {sc : Scope} {x : Str} (h : locB sc x = true) : Loc sc x := by
  unfold locB at h
  split at h
  · exact .inl (by assumption)
  · exact .inr (by assumption)
  · cases h
def gloB (sc : Scope) (x : Str) : Bool := match sc.names.lookup x with
  | some .globalImplicit => true
  | _ => false
theorem gloB_ok {sc : Scope} {x : Str} (h : gloB sc x = true) : sc.names.lookup x = some .globalImplicit := by
  unfold gloB at h
  split at h
  · assumption
  · cases h
def plainB (x : Str) : Bool := !(x == ("__debug__" : Str)) && (!(x == ("__classdict__" : Str)) && !(x == ("__name__" : Str)))
theorem plainB_ok {x : Str} (h : plainB x = true) : (x == ("__debug__" : Str)) = false ∧ (x == ("__classdict__" : Str)) = false ∧ x ≠ "__name__" := by
  unfold plainB at h
  simp only [Bool.and_eq_true, Bool.not_eq_true'] at h
  exact ⟨h.1, h.2.1, fun e => by rw [e] at h; exact absurd h.2.2 (by simp)⟩
def constB : Val → Const → Bool
  | .non, .none => true
  | .bl a, .bool b => a == b
  | .int a, .int b => decide (a = b)
  | .str a, .str b => decide (a = b)
  | _, _ => false
def opB : Op → Operator → Bool
  | .add, .Add => true
  | .sub, .Sub => true
  | .mul, .Mult => true
  | .fdiv, .FloorDiv => true
  | .mod, .Mod => true
  | .pow, .Pow => true
  | _, _ => false
def cpB : Cp → CmpOp → Bool
  | .eq, .Eq => true
  | .ne, .NotEq => true
  | .lt, .Lt => true
  | .le, .LtE => true
  | .gt, .Gt => true
  | .ge, .GtE => true
  | .mem, .In => true
  | .nmem, .NotIn => true
  | .isN, .Is => true
  | .notN, .IsNot => true
  | _, _ => false
def biN : Bi → Str
  | .len => "len"
  | .int_ => "int"
  | .str_ => "str"
  | .list_ => "list"
  | .tuple_ => "tuple"
  | .max_ => "max"
  | .min_ => "min"
  | .abs_ => "abs"
  | .all_ => "all"
  | .any_ => "any"
  | .sorted_ => "sorted"
def mtN : Mt → Str
  | .append => "append"
  | .extend => "extend"
  | .index => "index"
  | .pop => "pop"
  | .clear => "clear"
  | .get => "get"
  | .setdefault => "setdefault"
  | .join => "join"
  | .split => "split"
  | .upper => "upper"
  | .remove => "remove"
def tyN : Ty → Str
  | .int => "int"
  | .bool => "bool"
  | .str => "str"
  | .tuple => "tuple"
  | .list => "list"
/-- what the module's names stand for -/
structure Glo where
  T : List Fn
  con : List (Str × Val)
  free : List Str
  dic : List (Str × List (Str × Val)) := []
  /-- classes of exceptions, each with its field (without sign: none, and no own __init__) -/
  exc : List (Str × Str) := []
  /-- own classes, each with its fields -/
  cls : List (Str × List Str) := []
  /-- within an except suite -/
  hot : Bool := false
def Glo.exs (G : Glo) : List Str := G.exc.map (·.1)
def Glo.inHot (G : Glo) : Glo := { G with hot := true }
section
variable (G : Glo) (N : List Str)
def freeB (sc : Scope) (x : Str) : Bool := gloB sc x && (plainB x && G.free.contains x)
/-- a class of exceptions: an own one, ValueError -/
def excB (sc : Scope) (x : Str) : Bool := if x = ("ValueError" : Str) then freeB G sc x else gloB sc x && (plainB x && G.exs.contains x)
def excN (sc : Scope) (x : Str) (e : Expr) : Bool := match dName e with
  | some y => decide (x = y) && (noStar e && excB G sc x)
  | none => false
def excsB (sc : Scope) : List Str → List Expr → Bool
  | [], [] => true
  | x :: xs, e :: es => excN G sc x e && excsB sc xs es
  | _, _ => false
def isxB (sc : Scope) (one : Bool) (xs : List Str) (z : Expr) : Bool := match one with
  | true => (match xs with
    | [x] => excN G sc x z
    | _ => false)
  | false => (match dTup z with
    | some zs => decide (xs.length ≤ 20) && (noStar z && excsB G sc xs zs)
    | none => false)
def tgB (sc : Scope) : List Nat → List Expr → Bool
  | [], [] => true
  | i :: is, e :: es => (match dName e with
    | some x => decide (N[i]? = some x) && locB sc x
    | none => false) && tgB sc is es
  | _, _ => false
def tgE (sc : Scope) (one : Bool) (tg : List Nat) (e : Expr) : Bool := match one with
  | true => decide (tg.length = 1) && tgB N sc tg [e]
  | false => match dTup e with
    | some es => tgB N sc tg es
    | none => false
def someAll : List (Option Expr) → Option (List Expr)
  | [] => some []
  | none :: _ => none
  | some e :: r => match someAll r with
    | some es => some (e :: es)
    | none => none
def weave : List (Option Expr) → List Expr → Option (List Expr)
  | [], [] => some []
  | some k :: ks, v :: vs => match weave ks vs with
    | some r => some (k :: v :: r)
    | none => none
  | _, _ => none
mutual
def chkE (sc : Scope) : E → Expr → Bool
  | .var i, e => match dName e with
    | some x => decide (N[i]? = some x) && (visB sc x && plainB x)
    | none => false
  | .con v, e => match dConst e with
    | some c => constB v c
    | none => false
  | .glo x v, e => match dName e with
    | some y => decide (x = y) && (gloB sc y && (plainB y && decide (G.con.lookup y = some v)))
    | none => false
  | .bin op a b, e => match dBin e with
    | some (x, o, y) => opB op o && (chkE sc a x && chkE sc b y)
    | none => false
  | .neg a, e => match dUn e with
    | some (.USub, x) => chkE sc a x
    | _ => false
  | .cmp op a b, e => match dCmp e with
    | some (x, o, y) => cpB op o && (!behindInMarks o y && (chkE sc a x && chkE sc b y))
    | none => false
  | .band es, e => match dBool e with
    | some (.And, xs) => !xs.isEmpty && chkEs sc es xs
    | _ => false
  | .bor es, e => match dBool e with
    | some (.Or, xs) => !xs.isEmpty && chkEs sc es xs
    | _ => false
  | .not a, e => match dUn e with
    | some (.Not, x) => chkE sc a x
    | _ => false
  | .tup es, e => match dTup e with
    | some xs => chkEs sc es xs
    | none => false
  | .lst es, e => match dLst e with
    | some xs => chkEs sc es xs
    | none => false
  | .dic es, e => match dDic e with
    | some (ks, vs) => (match weave ks vs with
      | some xs => decide (ks.length ≤ 15) && chkEs sc es xs
      | none => false)
    | none => false
  | .ix a b, e => match dSub e with
    | some (x, y) => noSl y && (chkE sc a x && chkE sc b y)
    | none => false
  | .sl a lo hi, e => match dSub e with
    | some (x, y) => (match dSl y with
      | some (l, h) => chkE sc a x && (chkO sc lo l && chkO sc hi h)
      | none => false)
    | none => false
  | .rev a, e => match dSub e with
    | some (x, y) => isRev y && chkE sc a x
    | none => false
  | .call f es, e => match dCall e with
    | some (x, xs) => !G.hot && (decide ((G.T[f]?).map (fun fn => (fn.cls, fn.name)) = some (none, x)) && (gloB sc x && (plainB x && (!xs.isEmpty && chkEs sc es xs))))
    | none => false
  | .blt b es, e => match dCall e with
    | some (x, xs) => !G.hot && (decide (biN b = x) && (freeB G sc x && (!xs.isEmpty && chkEs sc es xs)))
    | none => false
  | .mth m o es, e => match dMeth e with
    | some (x, y, xs) => decide (mtN m = y) && (notSuper x && (decide (xs.length < 30) && (chkE sc o x && chkEs sc es xs)))
    | none => false
  | .isi a t, e => match dCall e with
    | some (x, [y, z]) => decide (x = "isinstance") && (freeB G sc x && ((match dName z with
      | some n => decide (tyN t = n) && freeB G sc n
      | none => false) && (noStar y && chkE sc a y)))
    | _ => false
  | .kin neg a x kvs, e => match dCmp e with
    | some (y, o, z) => (match o with
      | .In => !neg
      | .NotIn => neg
      | _ => false) && (!behindInMarks o z && (chkE sc a y && (match dName z with
      | some n => decide (x = n) && (gloB sc n && (plainB n && decide (G.dic.lookup n = some kvs)))
      | none => false)))
    | none => false
  | .kix x kvs a, e => match dSub e with
    | some (y, z) => noSl z && (chkE sc a z && (match dName y with
      | some n => decide (x = n) && (gloB sc n && (plainB n && decide (G.dic.lookup n = some kvs)))
      | none => false))
    | none => false
  | .lvals a, e => match dCall e with
    | some (x, [y]) => !G.hot && (decide (x = "list") && (freeB G sc x && (noStar y && (match dMeth y with
      | some (o, m, []) => decide (m = "values") && (notSuper o && chkE sc a o)
      | _ => false))))
    | _ => false
  | .lrng a, e => match dCall e with
    | some (x, [y]) => !G.hot && (decide (x = "list") && (freeB G sc x && (noStar y && (match dCall y with
      | some (r, [z]) => decide (r = "range") && (freeB G sc r && (noStar z && chkE sc a z))
      | _ => false))))
    | _ => false
  | .isx a one cs xs, e => match dCall e with
    | some (x, [y, z]) => decide (x = "isinstance") && (freeB G sc x && (decide (cs = G.exs) && (noStar y && (chkE sc a y && isxB G sc one xs z))))
    | _ => false
  | .xfld a cs f, e => match dAttr e with
    | some (y, g) => decide (f = g) && (decide (cs = G.exs) && (notSuper y && ((G.exc.map (·.2)).contains f && chkE sc a y)))
    | none => false
  | .fld c a f, e => match dAttr e with
    | some (y, g) => decide (f = g) && (notSuper y && ((match G.cls.lookup c with
      | some fs => fs.contains f
      | none => false) && chkE sc a y))
    | none => false
  | .new c f es, e => match dCall e with
    | some (x, xs) => !G.hot && (decide (c = x) && (decide ((G.T[f]?).map (fun fn => (fn.cls, fn.name)) = some (some c, ("__init__" : Str))) && (gloB sc x && (plainB x && ((G.cls.map (·.1)).contains c && chkEs sc es xs)))))
    | none => false
  | .met c m f o es, e => match dMeth e with
    | some (x, y, xs) => !G.hot && (decide (m = y) && (decide ((G.T[f]?).map (fun fn => (fn.cls, fn.name)) = some (some c, m)) && (decide (xs.length < 30) && (notSuper x && ((G.cls.map (·.1)).contains c && (chkE sc o x && chkEs sc es xs))))))
    | none => false
  | .lc own tg one it c el, e => match dLc e with
    | some (elt, t, iter, ifs, scope) => !G.hot && (blkC N sc scope (own.map fun i => (N.getD i Str.empty, i)) && (tg.all own.contains && (tgE N scope one tg t && (chkIt sc (!one) it iter && (chkC (relS scope sc) c ifs && chkE (relS scope sc) el elt)))))
    | none => false
def chkEs (sc : Scope) : Es → List Expr → Bool
  | .nil, [] => true
  | .cons e es, x :: xs => noStar x && (chkE sc e x && chkEs sc es xs)
  | _, _ => false
def chkO (sc : Scope) : Eo → Option Expr → Bool
  | .no, none => true
  | .yes e, some x => chkE sc e x
  | _, _ => false
def chkC (sc : Scope) : Eo → List Expr → Bool
  | .no, [] => true
  | .yes e, [x] => chkE sc e x
  | _, _ => false
/-- many: the target is a tuple -/
def chkIt (sc : Scope) (many : Bool) : It → Expr → Bool
  | .seq a, e => chkE sc a e && (match e with
    | .Set .. => false
    | _ => true)
  | .keys a, e => chkE sc a e && (match e with
    | .Set .. => false
    | _ => true)
  | .rng1 a, e => match dCall e with
    | some (x, [y]) => decide (x = "range") && (freeB G sc x && (noStar y && chkE sc a y))
    | _ => false
  | .rng2 a b, e => match dCall e with
    | some (x, [y, z]) => decide (x = "range") && (freeB G sc x && (noStar y && (noStar z && (chkE sc a y && chkE sc b z))))
    | _ => false
  | .rev a, e => match dCall e with
    | some (x, [y]) => decide (x = "reversed") && (freeB G sc x && (noStar y && chkE sc a y))
    | _ => false
  | .revr a, e => match dCall e with
    | some (x, [y]) => decide (x = "reversed") && (freeB G sc x && (noStar y && (match dCall y with
      | some (r, [z]) => decide (r = "range") && (freeB G sc r && (noStar z && chkE sc a z))
      | _ => false)))
    | _ => false
  | .enum a, e => many && (match dCall e with
    | some (x, [y]) => decide (x = "enumerate") && (freeB G sc x && (noStar y && chkE sc a y))
    | _ => false)
  | .zip2 a b, e => many && (match dCall e with
    | some (x, [y, z]) => decide (x = "zip") && (freeB G sc x && (noStar y && (noStar z && (chkE sc a y && chkE sc b z))))
    | _ => false)
  | .zip3 a b c, e => many && (match dCall e with
    | some (x, [y, z, u]) => decide (x = "zip") && (freeB G sc x && (noStar y && (noStar z && (noStar u && (chkE sc a y && (chkE sc b z && chkE sc c u))))))
    | _ => false)
end
def dAsg : Stmt → Option (Expr × Expr × Pos)
  | .Assign [t] e p => some (t, e, p)
  | _ => none
theorem dAsg_eq {s : Stmt} {t e : Expr} {p : Pos} (h : dAsg s = some (t, e, p)) : s = .Assign [t] e p := by
  unfold dAsg at h; split at h <;> cases h; rfl
def isLc : Expr → Bool
  | .ListComp .. => true
  | .SetComp .. => true
  | .DictComp .. => true
  | _ => false
theorem isLc_swap {e : Expr} (h : isLc e = false) (t : Option Expr) (l : Nat) (env : PySem.Env) : swapsWith e t l env = pure false := by
  cases e <;> first | rfl | cases h
def tgNm (sc : Scope) : Tg → Expr → Bool
  | .nm i, e => tgB N sc [i] [e]
  | .tp is, e => match dTup e with
    | some es => tgB N sc is es
    | none => false
def namePos : Expr → Nat
  | .Name _ p => p.line
  | _ => 0
/-- the comprehension has the name as its own -/
def ownsB (x : Expr) (y : Str) : Bool := match x with
  | .ListComp _ _ scope _ => scope.names.any fun (n, k) => n == y && (k == NameKind.local || k == NameKind.cell)
  | _ => true
def isManyT : Tg → Bool
  | .nm _ => false
  | .tp _ => true
def notPairs : Expr → Bool
  | .Tuple .. => false
  | _ => true
/-- an except suite's statements -/
def isLcE : E → Bool
  | .lc .. => true
  | _ => false
mutual
def chkH1 (sc : Scope) : St1 → Stmt → Bool
  | .set i e, s => match dAsg s with
    | some (t, x, _) => tgB N sc [i] [t] && (chkE G.inHot N sc e x && !isLc x)
    | none => false
  | .drop e, s => match s with
    | .Expr x _ => !isLc x && chkE G.inHot N sc e x
    | _ => false
  | .ite c a b, s => match s with
    | .If x y z _ => chkE G.inHot N sc c x && (chkHs sc a y && chkHs sc b z)
    | _ => false
  | _, _ => false
def chkHs (sc : Scope) : Sts → List Stmt → Bool
  | .nil, [] => true
  | .cons s r, x :: xs => chkH1 sc s x && chkHs sc r xs
  | _, _ => false
end
def exName (sc : Scope) (i : Option Nat) (nm : Option Str) : Bool := match nm, i with
  | some n, some i => decide (N[i]? = some n) && decide (sc.names.lookup n = some .local)
  | none, none => true
  | _, _ => false
/-- raise c(..) -/
def raiseB (sc : Scope) (c f : Str) (e : Eo) (x : Expr) : Bool := match dCall x with
  | some (y, [a]) => decide (c = y) && (gloB sc y && (plainB y && (decide (G.exc.lookup c = some f) && (noStar a && (match e with
    | .no => decide (f = Str.empty) && (match dConst a with
      | some (.str _) => true
      | _ => false)
    | .yes e => decide (f ≠ Str.empty) && chkE G N sc e a)))))
  | _ => false
mutual
def chkS (sc : Scope) : St1 → Stmt → Bool
  | .set i e, s => match dAsg s with
    | some (t, x, _) => tgB N sc [i] [t] && (chkE G N sc e x && (!isLc x || (match dName t with
      | some y => decide (sc.names.lookup y = some .cell) || (decide (sc.names.lookup y = some .local) && (decide (namePos t = x.pos.line) && !ownsB x y))
      | none => false)))
    | none => false
  | .unp is e, s => match dAsg s with
    | some (t, x, _) => (match dTup t with
      | some ts => tgB N sc is ts && (notPairs x && (!isLc x && chkE G N sc e x))
      | none => false)
    | none => false
  | .sub o i e, s => match dAsg s with
    | some (t, x, _) => (match dSub t with
      | some (y, z) => noSl z && (!isLc x && (chkE G N sc o y && (chkE G N sc i z && chkE G N sc e x)))
      | none => false)
    | none => false
  | .drop e, s => match s with
    | .Expr x _ => !isLc x && chkE G N sc e x
    | _ => false
  | .ite c a b, s => match s with
    | .If x y z _ => chkE G N sc c x && (chkSs sc a y && chkSs sc b z)
    | _ => false
  | .wh c b, s => match s with
    | .While x y [] _ => chkE G N sc c x && chkSs sc b y
    | _ => false
  | .for_ tg it b, s => match s with
    | .For t iter y [] _ => tgNm N sc tg t && (chkIt G N sc (isManyT tg) it iter && chkSs sc b y)
    | _ => false
  | .ret e, s => match s with
    | .Return (some x) _ => chkE G N sc e x
    | _ => false
  | .retN, s => match s with
    | .Return none _ => true
    | _ => false
  | .lks _ a, s => chkS sc a s
  | .raise c f e, s => match s with
    | .Raise (some x) none _ => raiseB G N sc c f e x
    | _ => false
  | .att c a f e, s => match dAsg s with
    | some (t, x, _) => (match dAttr t with
      | some (y, g) => decide (f = g) && (notSuper y && (!isLc x && ((match G.cls.lookup c with
        | some fs => fs.contains f
        | none => false) && (chkE G N sc a y && chkE G N sc e x))))
      | none => false)
    | none => false
  | .try_ b x cs i h, s => match s with
    | .Try bd [.ExceptHandler (some (.Name y _)) nm hd _] [] [] _ => decide (x = y) && (gloB sc y && (plainB y && (G.exs.contains y && (decide (cs = G.exs) && (exName N sc i nm && (!hd.isEmpty && (chkSs sc b bd && chkHs G N sc h hd)))))))
    | _ => false
def chkSs (sc : Scope) : Sts → List Stmt → Bool
  | .nil, [] => true
  | .cons s r, x :: xs => chkS sc s x && chkSs sc r xs
  | _, _ => false
end
end
end FW

set_option Elab.async false
set_option linter.all false
set_option maxRecDepth 100000
/-! What operators, built-ins and methods do, by the hand layer's rules. -/
namespace FW
open PySem PySem.Spec PyProof.Rows L2

def FinP (K : PySem.W.Frag) (ca : Nat → Addr) (S : Sto) (H : Hp) (P : VP) (Q : VK) : Prop := ∀ v S', P v S' → ∀ H' x, Step S H S' H' → RS K ca H' S' → RV K H' v x → Q x H'
section
variable {K : PySem.W.Frag} {ca : Nat → Addr} {S S1 : Sto} {H H1 : Hp} {P : VP} {Q : VK}
theorem FinP.after (f : FinP K ca S H P Q) (st : Step S H S1 H1) : FinP K ca S1 H1 P Q := fun v S' p H' x s r v' => f v S' p H' x (st.trans s) r v'
theorem FinP.val (f : FinP K ca S H P Q) (rs : RS K ca H S) {v : Val} {x : V} (p : P v S) (r : RV K H v x) : Q x H := f v S p H x Step.refl rs r
theorem FinP.lst (f : FinP K ca S H P Q) (rs : RS K ca H S) {vs : List Val} {xs : List V} (p : allo S (.lst vs) P) (r : RVs K H vs xs) : ∀ a, H a = none → Q (.ref a) (upd H a (.lst xs)) := fun a ha =>
  f (.ref a) _ (p a (rs.fresh ha)) _ _ (Step.new1 rs ha) (rs.put (noneFix ha) ⟨xs, upd_same, r.mono (tupK_upd (noneFix ha))⟩) (.ref a)
theorem FinP.tup (f : FinP K ca S H P Q) (rs : RS K ca H S) {vs : List Val} {xs : List V} (p : P (.tup vs) S) (r : RVs K H vs xs) : ∀ a, H a = none → Q (.ref a) (upd H a (.tup xs)) := fun a ha =>
  f (.tup vs) _ p _ _ (Step.new0 ha) (rs.keep ha) (.tup upd_same (r.mono (tupK_upd (noneFix ha))))
theorem SqK.sqt {a : Addr} {xs : List V} (h : SqK K a xs) : SqT K H a xs := let ⟨o, i, n, h1, h2, _, h4, h5, h6⟩ := h; .inr ⟨o, i, n, h1, h2, h4, h5, h6⟩
/-- a tuple, a list, by the layer -/
theorem RV.its (rs : RS K ca H S) {v : Val} {x : V} {vs : List Val} (r : RV K H v x) (h : FW.its S v = some vs) : ∃ a xs, x = .ref a ∧ (SqL K H a xs ∨ SqT K H a xs) ∧ RVs K H vs xs := by
  cases r with
  | tup e q => cases h; exact ⟨_, _, rfl, .inr (.of e), q⟩
  | kt e q => cases h; exact ⟨_, _, rfl, .inr e.sqt, q⟩
  | scr e q => cases h; exact ⟨_, _, rfl, .inl e.sql, q⟩
  | ref a =>
    unfold FW.its at h
    simp only at h
    split at h
    · rename_i e
      cases h
      obtain ⟨xs, q, r⟩ := rs a _ e
      exact ⟨a, xs, rfl, .inl (.of q), r⟩
    · cases h
  | _ => cases h
theorem RV.lts (rs : RS K ca H S) {v : Val} {x : V} {vs : List Val} (r : RV K H v x) (h : FW.lts S v = some vs) : ∃ a xs, x = .ref a ∧ SqL K H a xs ∧ RVs K H vs xs := by
  cases r with
  | scr e q => cases h; exact ⟨_, _, rfl, e.sql, q⟩
  | ref a =>
    unfold FW.lts at h
    simp only at h
    split at h
    · rename_i e
      cases h
      obtain ⟨xs, q, r⟩ := rs a _ e
      exact ⟨a, xs, rfl, .of q, r⟩
    · cases h
  | _ => cases h
/-! ### keys -/
theorem kOf_inj {a b : Val} {q : Key} (h : kOf a = some q) (g : kOf b = some q) : a = b := by
  cases a <;> cases b <;> simp [kOf] at h g <;> (try (subst h; simp at g)) <;> (try (cases g)) <;> (try rfl)
theorem ksOf_inj : ∀ {a b : List Val} {q : List Key}, ksOf a = some q → ksOf b = some q → a = b
  | [], [], _, _, _ => rfl
  | [], w :: ws, q, h, g => by
    cases h
    unfold ksOf at g
    split at g <;> simp at g
  | v :: vs, [], q, h, g => by
    cases g
    unfold ksOf at h
    split at h <;> simp at h
  | v :: vs, w :: ws, q, h, g => by
    unfold ksOf at h g
    split at h
    · rename_i k ks e1 e2
      cases h
      split at g
      · rename_i k' ks' e3 e4
        simp only [Option.some.injEq, List.cons.injEq] at g
        rw [g.1] at e3
        rw [g.2] at e4
        rw [kOf_inj e1 e3, ksOf_inj e2 e4]
      · simp at g
    · simp at h
theorem ktOf_inj {a b : Val} {q : List Key} (h : ktOf a = some q) (g : ktOf b = some q) : a = b := by
  cases a <;> simp [ktOf] at h
  cases b <;> simp [ktOf] at g
  rw [ksOf_inj h g]
theorem RV.key {k : Val} {x : V} {q : Key} (r : RV K H k x) (h : kOf k = some q) : x = kV q := by
  cases r <;> simp [kOf] at h <;> subst h <;> rfl
theorem RVs.keys : ∀ {ks : List Val} {xs : List V} {q : List Key}, RVs K H ks xs → ksOf ks = some q → xs = q.map kV
  | _, _, q, .nil, h => by cases h; rfl
  | _, _, q, .cons r t, h => by
    unfold ksOf at h
    split at h
    · rename_i k ks e1 e2
      cases h
      rw [r.key e1, t.keys e2]
      rfl
    · simp at h
theorem RV.keyT {k : Val} {x : V} {q : List Key} (r : RV K H k x) (h : ktOf k = some q) : ∃ b, x = .ref b ∧ H b = some (.tup (q.map kV)) := by
  cases r <;> simp [ktOf] at h
  rename_i e t
  rw [t.keys h] at e
  exact ⟨_, rfl, e⟩
section
variable {κ : Type} [DecidableEq κ] {f : Val → Option κ} (inj : ∀ a b q, f a = some q → f b = some q → a = b)
include inj
theorem RD.get : ∀ {kvs : List (Val × Val)} {t : List (κ × V)} {k : Val} {q : κ}, RD K H f kvs t → f k = some q → (dget kvs k = none ∧ valV t q = none) ∨ ∃ v x, dget kvs k = some v ∧ valV t q = some x ∧ RV K H v x
  | _, _, k, q, .nil, h => .inl ⟨rfl, rfl⟩
  | _, _, k, q, .cons (k := k') (q := q') (v := v) (x := x) (r := r) (t := t) e rv rr, h => by
    by_cases hk : k' = k
    · subst hk
      have : q' = q := Option.some.inj (e.symm.trans h)
      subst this
      exact .inr ⟨v, x, by simp [dget], by simp [valV], rv⟩
    · have hq : ¬ q' = q := fun z => hk (inj _ _ _ (z ▸ e) h)
      have e1 : dget ((k', v) :: r) k = dget r k := by simp [dget, List.find?_cons, hk]
      have e2 : valV ((q', x) :: t) q = valV t q := valV_neg hq
      rw [e1, e2]
      exact RD.get rr h
theorem RD.any {k : Val} {q : κ} (h : f k = some q) : ∀ {kvs : List (Val × Val)} {t : List (κ × V)}, RD K H f kvs t → (kvs.any fun p => decide (p.1 = k)) = t.any fun p => decide (p.1 = q)
  | _, _, .nil => rfl
  | _, _, .cons (k := k') (q := q') e rv rr => by
    rw [List.any_cons, List.any_cons, RD.any h rr]
    congr 1
    by_cases hk : k' = k
    · subst hk
      have : q' = q := Option.some.inj (e.symm.trans h)
      simp [this]
    · have hq : ¬ q' = q := fun z => hk (inj _ _ _ (z ▸ e) h)
      simp [hk, hq]
theorem RD.repl {k v : Val} {q : κ} {x : V} (h : f k = some q) (rv : RV K H v x) : ∀ {kvs : List (Val × Val)} {t : List (κ × V)}, RD K H f kvs t →
    RD K H f (kvs.map fun p => if p.1 = k then (p.1, v) else p) (t.map fun p => if p.1 = q then (p.1, x) else p)
  | _, _, .nil => .nil
  | _, _, .cons (k := k') (q := q') e rv' rr => by
    rw [List.map_cons, List.map_cons]
    by_cases hk : k' = k
    · subst hk
      have : q' = q := Option.some.inj (e.symm.trans h)
      subst this
      rw [if_pos rfl, if_pos rfl]
      exact .cons e rv (RD.repl h rv rr)
    · have hq : ¬ q' = q := fun z => hk (inj _ _ _ (z ▸ e) h)
      rw [if_neg hk, if_neg hq]
      exact .cons e rv' (RD.repl h rv rr)
omit inj [DecidableEq κ] in
theorem RD.snoc {k v : Val} {q : κ} {x : V} (h : f k = some q) (rv : RV K H v x) : ∀ {kvs : List (Val × Val)} {t : List (κ × V)}, RD K H f kvs t → RD K H f (kvs ++ [(k, v)]) (t ++ [(q, x)])
  | _, _, .nil => .cons h rv .nil
  | _, _, .cons e rv' rr => .cons e rv' (RD.snoc h rv rr)
theorem RD.put {k v : Val} {q : κ} {x : V} {kvs : List (Val × Val)} {t : List (κ × V)} (r : RD K H f kvs t) (h : f k = some q) (rv : RV K H v x) : RD K H f (dput kvs k v) (putK t q x) := by
  unfold dput putK
  rw [RD.any inj h r]
  split
  · exact RD.repl inj h rv r
  · exact RD.snoc h rv r
theorem RD.drop {k : Val} {q : κ} (h : f k = some q) : ∀ {kvs : List (Val × Val)} {t : List (κ × V)}, RD K H f kvs t → RD K H f (ddrop kvs k) (dropK t q)
  | _, _, .nil => .nil
  | _, _, .cons (k := k') (q := q') e rv' rr => by
    unfold ddrop dropK
    rw [List.filter_cons, List.filter_cons]
    by_cases hk : k' = k
    · subst hk
      have : q' = q := Option.some.inj (e.symm.trans h)
      subst this
      rw [if_neg (by simp), if_neg (by simp)]
      exact RD.drop h rr
    · have hq : ¬ q' = q := fun z => hk (inj _ _ _ (z ▸ e) h)
      rw [if_pos (by simp [hk]), if_pos (by simp [hq])]
      exact .cons e rv' (RD.drop h rr)
end
theorem RD.length {κ : Type} {f : Val → Option κ} : ∀ {kvs : List (Val × Val)} {t : List (κ × V)}, RD K H f kvs t → kvs.length = t.length
  | _, _, .nil => rfl
  | _, _, .cons _ _ r => by rw [List.length_cons, List.length_cons, RD.length r]
theorem RD.isSome {κ : Type} {f : Val → Option κ} : ∀ {kvs : List (Val × Val)} {t : List (κ × V)}, RD K H f kvs t → (kvs.all fun p => (f p.1).isSome) = true
  | _, _, .nil => rfl
  | _, _, .cons e _ r => by rw [List.all_cons, RD.isSome r, e]; rfl
theorem kt_apart {k : Val} (h : keyK k = true) : keyT k = false := by
  cases k <;> simp [keyK, keyT, kOf, ktOf] at h ⊢
/-! ### a dict without items may be told as one of tuple keys, and back -/
theorem empty_dT {P : Program} {w : World} {H H' : Hp} {h : Heap} {a : Addr} (x : ObjOk P w H h a (.dK [])) : ObjOk P w H' h a (.dT []) := by
  obtain ⟨z, y, vs, r, o, es, ep, e, ex, d, ko, pr, nd⟩ := x
  cases r
  have hl : es.toList = [] := by
    generalize es.toList = l at pr
    cases pr
    rfl
  exact ⟨z, y, [], .nil, o, es, ep, e, ex, d, by rw [hl]; rfl, List.nodup_nil⟩
theorem empty_dK {P : Program} {w : World} {H H' : Hp} {h : Heap} {a : Addr} (x : ObjOk P w H h a (.dT [])) : ObjOk P w H' h a (.dK []) := by
  obtain ⟨z, y, xs, r, o, es, ep, e, ex, d, hl, nd⟩ := x
  cases r
  have hl : es.toList = [] := hl
  refine ⟨z, y, [], .nil, o, es, ep, e, ex, d, fun en hen => ?_, ?_, List.nodup_nil⟩
  · have : en ∈ es.toList := Array.mem_toList_iff.mpr hen
    rw [hl] at this
    cases this
  · rw [hl]; exact .nil
section
variable {X : Cx} {pins : List (Addr × Obj)} {σ : L2.St} {s : Shared}
theorem Inv.asT (I : Inv X pins σ H s) {a : Addr} (h : H a = some (.dK [])) : Inv X pins σ (upd H a (.dT [])) s :=
  I.un (h' := s.heap) (t' := s.toks) (Un.write (x := a) (e := a) (by rw [h]; trivial) (.inl rfl) (fun _ _ _ q => q) ((I.hok a _ h).lt |> fun _ => by
    obtain ⟨_, _, _, _, o, _, _, e, _⟩ := I.hok a _ h
    exact ⟨o, e⟩)) (I.hok.write (x := a) (e := a) (by rw [h]; trivial) (.inl rfl) (fun _ _ _ q => q) (by
    obtain ⟨_, _, _, _, o, _, _, e, _⟩ := I.hok a _ h
    exact ⟨o, e⟩) (empty_dT (I.hok a _ h)))
theorem Inv.asK (I : Inv X pins σ H s) {a : Addr} (h : H a = some (.dT [])) : Inv X pins σ (upd H a (.dK [])) s :=
  I.un (h' := s.heap) (t' := s.toks) (Un.write (x := a) (e := a) (by rw [h]; trivial) (.inl rfl) (fun _ _ _ q => q) (by
    obtain ⟨_, _, _, _, o, _, _, e, _⟩ := I.hok a _ h
    exact ⟨o, e⟩)) (I.hok.write (x := a) (e := a) (by rw [h]; trivial) (.inl rfl) (fun _ _ _ q => q) (by
    obtain ⟨_, _, _, _, o, _, _, e, _⟩ := I.hok a _ h
    exact ⟨o, e⟩) (empty_dK (I.hok a _ h)))
/-- the dict as one for this key -/
theorem Inv.suit (I : Inv X pins σ H s) (rs : RS X.K ca H S) {a : Addr} {kvs : List (Val × Val)} {k : Val} (e : S a = some (.dic kvs)) (h : suits kvs k = true) :
    ∃ H1, Inv X pins σ H1 s ∧ RS X.K ca H1 S ∧ Step S H S H1 ∧ ((∃ q t, kOf k = some q ∧ H1 a = some (.dK t) ∧ RD X.K H1 kOf kvs t) ∨ ∃ q t, ktOf k = some q ∧ H1 a = some (.dT t) ∧ RD X.K H1 ktOf kvs t) := by
  have q := rs a _ e
  have nn : S a ≠ none := by rw [e]; exact fun z => nomatch z
  unfold suits at h
  rcases Bool.or_eq_true_iff.mp h with h | h
  · obtain ⟨hk, ha⟩ := Bool.and_eq_true_iff.mp h
    obtain ⟨qk, eq⟩ := Option.isSome_iff_exists.mp hk
    rcases q with ⟨t, q, r⟩ | ⟨t, q, r⟩
    · exact ⟨H, I, rs, Step.refl, .inl ⟨qk, t, eq, q, r⟩⟩
    · have hn : kvs = [] := by
        cases kvs with
        | nil => rfl
        | cons p r' =>
          have h1 := RD.isSome r
          have h2 : keyT p.1 = true := (Bool.and_eq_true_iff.mp (by rw [List.all_cons] at h1; exact h1)).1
          have h3 : keyK p.1 = true := (Bool.and_eq_true_iff.mp (by unfold allK at ha; rw [List.all_cons] at ha; exact ha)).1
          rw [kt_apart h3] at h2; cases h2
      subst hn
      cases r
      have nf : ∀ v, H a = some v → Fix v = false := fun v z => by rw [q] at z; cases z; rfl
      refine ⟨_, Inv.asK I q, ?_, ?_, .inl ⟨qk, [], eq, upd_same, .nil⟩⟩
      · have := rs.put (o := .dic []) (u := .dK []) nf (.inl ⟨[], upd_same, .nil⟩)
        rw [put_id e] at this; exact this
      · have := Step.wr (S := S) (H := H) (o := .dic []) (u := .dK []) nn
        rw [put_id e] at this; exact this
  · obtain ⟨hk, ha⟩ := Bool.and_eq_true_iff.mp h
    obtain ⟨qk, eq⟩ := Option.isSome_iff_exists.mp hk
    rcases q with ⟨t, q, r⟩ | ⟨t, q, r⟩
    · have hn : kvs = [] := by
        cases kvs with
        | nil => rfl
        | cons p r' =>
          have h1 := RD.isSome r
          have h2 : keyK p.1 = true := (Bool.and_eq_true_iff.mp (by rw [List.all_cons] at h1; exact h1)).1
          have h3 : keyT p.1 = true := (Bool.and_eq_true_iff.mp (by unfold allT at ha; rw [List.all_cons] at ha; exact ha)).1
          rw [kt_apart h2] at h3; cases h3
      subst hn
      cases r
      have nf : ∀ v, H a = some v → Fix v = false := fun v z => by rw [q] at z; cases z; rfl
      refine ⟨_, Inv.asT I q, ?_, ?_, .inr ⟨qk, [], eq, upd_same, .nil⟩⟩
      · have := rs.put (o := .dic []) (u := .dT []) nf (.inr ⟨[], upd_same, .nil⟩)
        rw [put_id e] at this; exact this
      · have := Step.wr (S := S) (H := H) (o := .dic []) (u := .dT []) nn
        rw [put_id e] at this; exact this
    · exact ⟨H, I, rs, Step.refl, .inr ⟨qk, t, eq, q, r⟩⟩
/-- what a dict has, as the layer says it -/
theorem Inv.look (I : Inv X pins σ H s) (rs : RS X.K ca H S) {o k : Val} {x y : V} {r : Option Val} (ro : RV X.K H o x) (rk : RV X.K H k y) (h : look S o k = some r) :
    ∃ H1 a z, Inv X pins σ H1 s ∧ RS X.K ca H1 S ∧ Step S H S H1 ∧ x = .ref a ∧ DGet H1 a y z ∧ IsD H1 a ∧ ((r = none ∧ z = none) ∨ ∃ v u, r = some v ∧ z = some u ∧ RV X.K H1 v u) := by
  unfold FW.look at h
  cases o with
  | ref a =>
    cases ro
    simp only at h
    split at h
    · rename_i kvs e
      split at h
      · rename_i hs
        cases h
        obtain ⟨H1, I1, rs1, st, q⟩ := Inv.suit I rs e hs
        refine ⟨H1, a, ?_⟩
        rcases q with ⟨q, t, ek, eh, rd⟩ | ⟨q, t, ek, eh, rd⟩
        · refine ⟨valV t q, I1, rs1, st, rfl, .inl ⟨t, q, .inl eh, rk.key ek, rfl⟩, .inl ⟨t, .inl eh⟩, ?_⟩
          rcases rd.get (fun _ _ _ => kOf_inj) ek with ⟨e1, e2⟩ | ⟨v, x, e1, e2, rv⟩
          · exact .inl ⟨e1, e2⟩
          · exact .inr ⟨v, x, e1, e2, rv⟩
        · obtain ⟨b, ey, eb⟩ := (rk.mono (st.tup rs)).keyT ek
          refine ⟨valV t q, I1, rs1, st, rfl, .inr ⟨t, q, b, .inl eh, ey, eb, rfl⟩, .inr ⟨t, .inl eh⟩, ?_⟩
          rcases rd.get (fun _ _ _ => ktOf_inj) ek with ⟨e1, e2⟩ | ⟨v, x, e1, e2, rv⟩
          · exact .inl ⟨e1, e2⟩
          · exact .inr ⟨v, x, e1, e2, rv⟩
      · cases h
    · rename_i kvs o0 t0 e
      split at h
      · rename_i hs
        cases h
        obtain ⟨hk, ha⟩ := Bool.and_eq_true_iff.mp hs
        obtain ⟨q, ek⟩ := Option.isSome_iff_exists.mp hk
        obtain ⟨eh, rd⟩ := rs a _ e
        refine ⟨H, a, valV t0 q, I, rs, Step.refl, rfl, .inl ⟨t0, q, .inr ⟨o0, eh⟩, rk.key ek, rfl⟩, .inl ⟨t0, .inr ⟨o0, eh⟩⟩, ?_⟩
        rcases rd.get (fun _ _ _ => kOf_inj) ek with ⟨e1, e2⟩ | ⟨v, x, e1, e2, rv⟩
        · exact .inl ⟨e1, e2⟩
        · exact .inr ⟨v, x, e1, e2, rv⟩
      · cases h
    · cases h
  | _ => cases h
end
end
end FW

set_option Elab.async false
set_option linter.all false
set_option maxRecDepth 100000
/-! Operators, comparisons, subscripts. -/
namespace FW
open PySem PySem.Spec PyProof.Rows L2
def R2of (K : PySem.W.Frag) (ca : Nat → Addr) (sem : Val → Val → Sto → VP → Prop) : R2 := fun x y H Q => ∃ S v w P, RS K ca H S ∧ RV K H v x ∧ RV K H w y ∧ sem v w S P ∧ FinP K ca S H P Q

theorem foldl_app (a : Array Nat) : ∀ (k : Nat) (b : Array Nat), ((List.replicate k a).foldl (· ++ ·) b).toList = b.toList ++ (List.replicate k a.toList).flatten
  | 0, b => by simp
  | k + 1, b => by rw [List.replicate_succ, List.foldl_cons, foldl_app a k, List.replicate_succ, List.flatten_cons]; simp
theorem rep_nil {α : Type} : ∀ k : Nat, (List.replicate k ([] : List α)).flatten = []
  | 0 => rfl
  | k + 1 => by rw [List.replicate_succ, List.flatten_cons, rep_nil k]; rfl
theorem mul_rep (x : Str) (j : Int) : PySem.Txt.mul x j = strRep x j := by
  refine Str.ext' (Array.toList_inj.mp ?_)
  show (PySem.Txt.mul x j).cps.toList = ((List.replicate j.toNat x.cps.toList).flatten.toArray).toList
  unfold PySem.Txt.mul
  by_cases h : j < 1
  · rw [if_pos h, show j.toNat = 0 by omega]; rfl
  · rw [if_neg h]
    by_cases h1 : (j == 1 || x.length == 0) = true
    · rw [if_pos h1]
      rcases Bool.or_eq_true_iff.mp h1 with e | e
      · have e : j = 1 := by simpa using e
        rw [e]; simp
      · have e : x.length = 0 := by simpa using e
        have e2 : x.cps.toList = [] := by
          have : x.cps.toList.length = 0 := by simpa [Str.length] using e
          exact List.length_eq_zero_iff.mp this
        rw [e2]; simp [rep_nil]
    · rw [if_neg h1, foldl_app]; simp
theorem line_is : sizeLine = 16777216 := sizeLine_eq
theorem mulOk_small {x : Str} {j : Int} (h1 : j ≤ 1000) (h2 : -1000 ≤ j) (h3 : x.length ≤ 1000) : MulOk x j := by
  refine ⟨by have a : ¬ j < -(2 ^ 63 : Int) := by omega
             have b : ¬ j ≥ 2 ^ 63 := by omega
             rw [decide_eq_false a, decide_eq_false b]; rfl, fun hn _ => ?_, fun hn _ => ?_⟩
  · have a : (9223372036854775 : Int) ≤ (2 ^ 63 - 1) / j := by
      refine (Int.le_ediv_iff_mul_le (by omega)).mpr ?_
      have : (9223372036854775 : Int) * j ≤ 9223372036854775 * 1000 := Int.mul_le_mul_of_nonneg_left h1 (by decide)
      omega
    omega
  · have a : x.length * j.toNat ≤ 1000 * 1000 := Nat.mul_le_mul h3 (by omega)
    generalize x.length * j.toNat = n at a
    first
      | (unfold Builtin.Str.tooLong; rw [line_is]; exact decide_eq_false (by omega))
      | (unfold Builtin.Str.tooLong; simp; omega)
section
variable {X : Cx} {ca : Nat → Addr} {k : Nat}
/-- a sum of tuples -/
theorem snd_addT {pins : List (Addr × Obj)} {s : Shared} {σ : L2.St} {H : Hp} {x y : V} {v u : Value} {Q : VK} {S : Sto} {xs ys : List Val} {P : VP} (I : Inv X pins σ H s) (rx : RelV x v) (ry : RelV y u) (rs : RS X.K ca H S)
    (r1 : RV X.K H (.tup xs) x) (r2 : RV X.K H (.tup ys) y) (hl : xs.length + ys.length ≤ 16777216) (p : P (.tup (xs ++ ys)) S) (f : FinP X.K ca S H P Q) : wpAny (model X.prog X.w) X.A (binaryOp .Add v u) (EP X pins σ Q) X.xe s := by
  cases r1 with
  | tup e1 q1 =>
    cases r2 with
    | tup e2 q2 =>
      refine op_catA pins s σ H _ _ v u Q I rx ry ⟨_, _, _, _, rfl, rfl, .of e1, .of e2, by rw [line_is, ← q1.len, ← q2.len]; exact hl, fun z => ?_, fun _ z => ?_, fun _ _ => f.tup rs p (q1.append q2)⟩
      · subst z; cases q1; exact f.val rs p (.tup e2 q2)
      · subst z; cases q2; rw [List.append_nil] at p; exact f.val rs p (.tup e1 q1)
theorem snd_op {op : Op} {o : Operator} (h : opB op o = true) : OpR X (binaryOp o) (R2of X.K ca (semOp op)) := by
  intro pins s σ H x y v u Q I rx ry ⟨S, a, b, P, rs, ra, rb, hm, f⟩
  cases op <;> cases o <;> simp [opB] at h
  · -- add
    cases a <;> cases b <;> simp only [semOp, semAdd] at hm <;> (try exact hm.elim)
    · cases ra; cases rb; exact op_add pins s σ H _ _ v u Q I rx ry ⟨_, _, rfl, rfl, f.val rs hm (.int _)⟩
    · cases ra; cases rb; exact op_add_str pins s σ H _ _ v u Q I rx ry ⟨_, _, rfl, rfl, by rw [line_is]; exact hm.1, f.val rs hm.2 (.str _)⟩
    · exact snd_addT I rx ry rs ra rb hm.1 hm.2 f
    · obtain ⟨xs, ys, e1, e2, hl, hm⟩ := hm
      cases ra; cases rb
      obtain ⟨zs, h1, q1⟩ := rs _ _ e1
      obtain ⟨ws, h2, q2⟩ := rs _ _ e2
      exact op_cat pins s σ H _ _ v u Q I rx ry ⟨_, _, _, _, rfl, rfl, h1, h2, by rw [line_is, ← q1.len, ← q2.len]; exact hl, f.lst rs hm (q1.append q2)⟩
  · cases a <;> cases b <;> simp only [semOp] at hm <;> (try exact hm.elim)
    cases ra; cases rb; exact op_sub pins s σ H _ _ v u Q I rx ry ⟨_, _, rfl, rfl, f.val rs hm (.int _)⟩
  · cases a <;> cases b <;> simp only [semOp] at hm <;> (try exact hm.elim)
    · cases ra; cases rb
      rcases hm with ⟨hc | hc, hm⟩
      · exact op_mul pins s σ H _ _ v u Q I rx ry ⟨_, _, rfl, rfl, hc, f.val rs hm (.int _)⟩
      · exact op_mulW pins s σ H _ _ v u Q I rx ry ⟨_, _, rfl, rfl, hc, f.val rs hm (.int _)⟩
    · cases ra; cases rb
      obtain ⟨t, rfl⟩ := rx
      obtain ⟨t', rfl⟩ := ry
      obtain ⟨h1, h2, h3, hm⟩ := hm
      refine PySem.SB.mul (mulOk_small h1 h2 h3) fun t' k => ⟨.str _, H, I.tok _, ⟨t', by rw [mul_rep]⟩, f.val rs hm (.str _)⟩
  · cases a <;> cases b <;> simp only [semOp] at hm <;> (try exact hm.elim)
    cases ra; cases rb; exact op_fdivW pins s σ H _ _ v u Q I rx ry ⟨_, _, rfl, rfl, hm.1, f.val rs hm.2 (.int _)⟩
  · cases a <;> cases b <;> simp only [semOp] at hm <;> (try exact hm.elim)
    cases ra; cases rb; exact op_mod pins s σ H _ _ v u Q I rx ry ⟨_, _, rfl, rfl, hm.1, f.val rs hm.2 (.int _)⟩
  · cases a <;> cases b <;> simp only [semOp] at hm <;> (try exact hm.elim)
    cases ra; cases rb; exact op_pow pins s σ H _ _ v u Q I rx ry ⟨_, _, rfl, rfl, hm.1, f.val rs hm.2 (.int _)⟩

/-! ### comparisons -/
def RCof (K : PySem.W.Frag) (ca : Nat → Addr) (sem : Val → Val → Sto → (Bool → Prop) → Prop) : R2 := fun x y H Q => ∃ S v w P, RS K ca H S ∧ RV K H v x ∧ RV K H w y ∧ sem v w S P ∧ ∀ b, P b → ∀ H1, Step S H S H1 → RS K ca H1 S → Q (.bl b) H1
mutual
theorem RV.dp {K : PySem.W.Frag} {H : Hp} {S : Sto} (rs : RS K ca H S) : ∀ {v : Val} {x : V} {d : PyData}, RV K H v x → Dv S v d → Dp K H x d
  | _, _, .none, r, h => by cases h; cases r; exact .non
  | _, _, .bool b, r, h => by cases h; cases r; exact .bl b
  | _, _, .int i, r, h => by cases h; cases r; exact .int i
  | _, _, .str z, r, h => by cases h; cases r; exact .str z
  | _, _, .tuple ds, r, h => by
    cases h with
    | tup h =>
      cases r with
      | tup e q => exact .tup (.of e) (RVs.dps rs q h)
  | _, _, .list ds, r, h => by
    cases h with
    | lst e h =>
      obtain ⟨a, xs, rfl, hs, q⟩ := r.lts rs e
      exact .lst hs (RVs.dps rs q h)
  | _, _, .dict _, _, h => by cases h
theorem RVs.dps {K : PySem.W.Frag} {H : Hp} {S : Sto} (rs : RS K ca H S) : ∀ {vs : List Val} {xs : List V} {ds : List PyData}, RVs K H vs xs → Dvs S vs ds → DpAll K H xs ds
  | _, _, [], r, h => by cases h; cases r; exact .nil
  | _, _, d :: ds, r, h => by
    cases h with
    | cons h1 h2 =>
      cases r with
      | cons r1 r2 => exact .cons (RV.dp rs r1 h1) (RVs.dps rs r2 h2)
end
theorem RV.flat {K : PySem.W.Frag} {H : Hp} {v : Val} {x : V} (r : RV K H v x) (h : flatW v = true) : flatV x = true := by
  cases r <;> first | rfl | cases h
theorem RVs.flat {K : PySem.W.Frag} {H : Hp} : ∀ {vs : List Val} {xs : List V}, RVs K H vs xs → vs.all flatW = true → xs.all flatV = true
  | _, _, .nil, _ => rfl
  | _, _, .cons r t, h => by
    rw [List.all_cons, Bool.and_eq_true] at h
    rw [List.all_cons, r.flat h.1, t.flat h.2]; rfl
theorem RV.eqf {K : PySem.W.Frag} {H : Hp} {v w : Val} {x y : V} (r : RV K H v x) (q : RV K H w y) (h : flatW v = true) (g : flatW w = true) : eqV x y = eqW v w := by
  cases r <;> cases q <;> first | rfl | cases h | cases g
theorem RVs.mem {K : PySem.W.Frag} {H : Hp} {v : Val} {x : V} (r : RV K H v x) (h : flatW v = true) : ∀ {vs : List Val} {xs : List V}, RVs K H vs xs → vs.all flatW = true → inV x xs = memW v vs
  | _, _, .nil, _ => rfl
  | _, _, .cons (v := w) (x := y) (vs := vs) (xs := xs) q t, g => by
    rw [List.all_cons, Bool.and_eq_true] at g
    show (eqV y x || inV x xs) = (eqW w v || memW v vs)
    rw [q.eqf r g.1 h, RVs.mem r h t g.2]
structure RoomU (A : Around) : Prop where
  un : A.units + 200 < cLine
theorem RoomU.of {A : Around} (r : Room k A) : RoomU A := ⟨by have := r.un; omega⟩
theorem RoomU.u65 {A : Around} (r : RoomU A) : A.units + 65 < cLine := by have := r.un; omega
theorem RoomU.u1 {A : Around} (r : RoomU A) : A.units + 1 < cLine := by have := r.un; omega
theorem RoomU.units {A : Around} (r : RoomU A) : A.units + 64 < cLine := by have := r.un; omega
theorem RoomU.units0 {A : Around} (r : RoomU A) : A.units < cLine := by have := r.un; omega
theorem snd_eq (hr : RoomU X.A) : OpR X (compareOp .Eq) (RCof X.K ca semEq) := by
  intro pins s σ H x y v u Q I rx ry ⟨S, a, b, P, rs, ra, rb, hm, f⟩
  have gen : (∃ d e, Dv S a d ∧ Dv S b e ∧ SeqAt.shaped d = true ∧ SeqAt.shaped e = true ∧ P (PyData.eqv d e)) → wpAny (model X.prog X.w) X.A (compareOp .Eq v u) (EP X pins σ Q) X.xe s := fun ⟨d, e, h1, h2, h3, h4, p⟩ =>
    op_eqD hr.units pins s σ H x y v u Q I rx ry ⟨d, e, ra.dp rs h1, rb.dp rs h2, h3, h4, f _ p H Step.refl rs⟩
  have sc : ∀ c, P c → scal x y = true → decide (x = y) = c → wpAny (model X.prog X.w) X.A (compareOp .Eq v u) (EP X pins σ Q) X.xe s := fun c p h1 h2 => op_eq pins s σ H x y v u Q I rx ry ⟨h1, by rw [h2]; exact f c p H Step.refl rs⟩
  cases a <;> cases b <;> simp only [semEq] at hm <;> first
    | exact gen hm
    | (cases ra; cases rb; exact sc _ hm rfl (by simp))
theorem snd_ne (hr : RoomU X.A) : OpR X (compareOp .NotEq) (RCof X.K ca fun v w S P => semEq v w S fun b => P (!b)) := by
  intro pins s σ H x y v u Q I rx ry ⟨S, a, b, P, rs, ra, rb, hm, f⟩
  have gen : (∃ d e, Dv S a d ∧ Dv S b e ∧ SeqAt.shaped d = true ∧ SeqAt.shaped e = true ∧ P (!PyData.eqv d e)) → wpAny (model X.prog X.w) X.A (compareOp .NotEq v u) (EP X pins σ Q) X.xe s := fun ⟨d, e, h1, h2, h3, h4, p⟩ =>
    op_neD hr.units pins s σ H x y v u Q I rx ry ⟨d, e, ra.dp rs h1, rb.dp rs h2, h3, h4, f _ p H Step.refl rs⟩
  have sc : ∀ c, P (!c) → scal x y = true → decide (x = y) = c → wpAny (model X.prog X.w) X.A (compareOp .NotEq v u) (EP X pins σ Q) X.xe s := fun c p h1 h2 => op_ne pins s σ H x y v u Q I rx ry ⟨h1, by rw [h2]; exact f _ p H Step.refl rs⟩
  cases a <;> cases b <;> simp only [semEq] at hm <;> first
    | exact gen hm
    | (cases ra; cases rb; exact sc _ hm rfl (by simp))
theorem snd_in (hr : RoomU X.A) : OpR X (compareOp .In) (RCof X.K ca semIn) := by
  intro pins s σ H x y v u Q I rx ry ⟨S, a, b, P, rs, ra, rb, hm, f⟩
  have gen : ((∃ vs, its S b = some vs ∧ flatW a = true ∧ vs.all flatW = true ∧ P (memW a vs)) ∨
    (∃ d ds, Dv S a d ∧ Dv S b (.list ds) ∧ SeqAt.shaped d = true ∧ SeqAt.shaped (.list ds) = true ∧ P (ds.any fun z => PyData.eqv z d)) ∨
    ∃ r, look S b a = some r ∧ P r.isSome) → wpAny (model X.prog X.w) X.A (compareOp .In v u) (EP X pins σ Q) X.xe s := by
    rintro (⟨vs, h1, h2, h3, p⟩ | ⟨d, ds, h1, h2, h3, h4, p⟩ | ⟨r, h1, p⟩)
    · obtain ⟨q, xs, rfl, hs, rr⟩ := rb.its rs h1
      exact op_in_seq pins s σ H x _ v u Q I rx ry ⟨q, xs, rfl, hs, ra.flat h2, rr.flat h3, by rw [RVs.mem ra h2 rr h3]; exact f _ p H Step.refl rs⟩
    · exact op_inD (hr.u65) pins s σ H x y v u Q I rx ry ⟨d, ds, ra.dp rs h1, rb.dp rs h2, h3, h4, f _ p H Step.refl rs⟩
    · obtain ⟨H1, q, z, I1, rs1, st, rfl, g, _, hz⟩ := Inv.look I rs rb ra h1
      cases ry
      refine d_in (hr.u1) I1 g rx fun s' I' => ⟨.bl _, H1, I', rfl, ?_⟩
      have e : z.isSome = r.isSome := by rcases hz with ⟨h1, h2⟩ | ⟨_, _, h1, h2, _⟩ <;> (rw [h1, h2]; rfl)
      rw [e]
      exact f _ p H1 st rs1
  cases b <;> simp only [semIn] at hm <;> first
    | exact gen hm
    | (obtain ⟨c, e, p⟩ := hm
       subst e
       cases ra; cases rb
       exact op_in_sign pins s σ H _ _ v u Q I rx ry ⟨c, _, rfl, rfl, f _ p H Step.refl rs⟩)
theorem snd_nin (hr : RoomU X.A) : OpR X (compareOp .NotIn) (RCof X.K ca fun v w S P => semIn v w S fun b => P (!b)) := by
  intro pins s σ H x y v u Q I rx ry ⟨S, a, b, P, rs, ra, rb, hm, f⟩
  have gen : ((∃ vs, its S b = some vs ∧ flatW a = true ∧ vs.all flatW = true ∧ P (!memW a vs)) ∨
    (∃ d ds, Dv S a d ∧ Dv S b (.list ds) ∧ SeqAt.shaped d = true ∧ SeqAt.shaped (.list ds) = true ∧ P (!ds.any fun z => PyData.eqv z d)) ∨
    ∃ r, look S b a = some r ∧ P (!r.isSome)) → wpAny (model X.prog X.w) X.A (compareOp .NotIn v u) (EP X pins σ Q) X.xe s := by
    rintro (⟨vs, h1, h2, h3, p⟩ | ⟨d, ds, h1, h2, h3, h4, p⟩ | ⟨r, h1, p⟩)
    · obtain ⟨q, xs, rfl, hs, rr⟩ := rb.its rs h1
      refine op_notIn_seq pins s σ H x _ v u Q I rx ry ⟨q, xs, rfl, hs, ra.flat h2, rr.flat h3, ?_⟩
      show Q (.bl (!inV x xs)) H
      rw [RVs.mem ra h2 rr h3]; exact f _ p H Step.refl rs
    · exact op_notInD (hr.u65) pins s σ H x y v u Q I rx ry ⟨d, ds, ra.dp rs h1, rb.dp rs h2, h3, h4, f _ p H Step.refl rs⟩
    · obtain ⟨H1, q, z, I1, rs1, st, rfl, g, _, hz⟩ := Inv.look I rs rb ra h1
      cases ry
      refine d_notIn (hr.u1) I1 g rx fun s' I' => ⟨.bl _, H1, I', rfl, ?_⟩
      have e : z.isSome = r.isSome := by rcases hz with ⟨h1, h2⟩ | ⟨_, _, h1, h2, _⟩ <;> (rw [h1, h2]; rfl)
      rw [e]
      exact f _ p H1 st rs1
  cases b <;> simp only [semIn] at hm <;> first
    | exact gen hm
    | (obtain ⟨c, e, p⟩ := hm
       subst e
       cases ra; cases rb
       exact op_notIn_sign pins s σ H _ _ v u Q I rx ry ⟨c, _, rfl, rfl, f _ p H Step.refl rs⟩)
theorem rv_non {K : PySem.W.Frag} {H : Hp} {v : Val} {x : V} (r : RV K H v x) : decide (x = V.non) = decide (v = Val.non) := by
  cases r <;> simp
theorem snd_cmp (hr : RoomU X.A) {op : Cp} {o : CmpOp} (h : cpB op o = true) : OpR X (compareOp o) (RCof X.K ca (semCmp op)) := by
  cases op <;> cases o <;> first | cases h | skip
  · exact snd_eq hr
  · exact snd_ne hr
  · intro pins s σ H x y v u Q I rx ry ⟨S, a, b, P, rs, ra, rb, hm, f⟩
    cases a <;> cases b <;> simp only [semCmp] at hm <;> (try exact hm.elim)
    · cases ra; cases rb; exact op_lt pins s σ H _ _ v u Q I rx ry ⟨_, _, rfl, rfl, f _ hm H Step.refl rs⟩
    · obtain ⟨ns, ms, e1, e2, p⟩ := hm
      subst e1; subst e2
      cases ra with
      | tup h1 q1 =>
        cases rb with
        | tup h2 q2 =>
          rw [q1.ints] at h1
          rw [q2.ints] at h2
          exact op_ltT hr.units0 pins s σ H _ _ v u Q I rx ry ⟨_, _, ns, ms, rfl, rfl, .of h1, .of h2, f _ p H Step.refl rs⟩
  · intro pins s σ H x y v u Q I rx ry ⟨S, a, b, P, rs, ra, rb, hm, f⟩
    cases a <;> cases b <;> simp only [semCmp] at hm <;> (try exact hm.elim)
    cases ra; cases rb; exact op_le pins s σ H _ _ v u Q I rx ry ⟨_, _, rfl, rfl, f _ hm H Step.refl rs⟩
  · intro pins s σ H x y v u Q I rx ry ⟨S, a, b, P, rs, ra, rb, hm, f⟩
    cases a <;> cases b <;> simp only [semCmp] at hm <;> (try exact hm.elim)
    cases ra; cases rb; exact op_gt pins s σ H _ _ v u Q I rx ry ⟨_, _, rfl, rfl, f _ hm H Step.refl rs⟩
  · intro pins s σ H x y v u Q I rx ry ⟨S, a, b, P, rs, ra, rb, hm, f⟩
    cases a <;> cases b <;> simp only [semCmp] at hm <;> (try exact hm.elim)
    cases ra; cases rb; exact op_ge pins s σ H _ _ v u Q I rx ry ⟨_, _, rfl, rfl, f _ hm H Step.refl rs⟩
  · exact snd_in hr
  · exact snd_nin hr
  · intro pins s σ H x y v u Q I rx ry ⟨S, a, b, P, rs, ra, rb, hm, f⟩
    obtain ⟨e, p⟩ := hm
    subst e
    cases rb
    exact op_isN pins s σ H _ _ v u Q I rx ry ⟨rfl, by rw [rv_non ra]; exact f _ p H Step.refl rs⟩
  · intro pins s σ H x y v u Q I rx ry ⟨S, a, b, P, rs, ra, rb, hm, f⟩
    obtain ⟨e, p⟩ := hm
    subst e
    cases rb
    exact op_notN pins s σ H _ _ v u Q I rx ry ⟨rfl, by rw [rv_non ra]; exact f _ p H Step.refl rs⟩
end
end FW

set_option Elab.async false
set_option linter.all false
set_option maxRecDepth 100000
/-! Subscripts, slices, built-ins, methods, stores. -/
namespace FW
open PySem PySem.Spec PyProof.Rows L2
section
variable {X : Cx} {ca : Nat → Addr} {k : Nat}
theorem cut_len {α : Type} (xs : List α) (lo hi : Option Int) : (cut xs lo hi).length ≤ xs.length := by
  unfold cut
  rw [List.length_take, List.length_drop]
  omega
theorem RVs.cut {K : PySem.W.Frag} {H : Hp} {vs : List Val} {xs : List V} (r : RVs K H vs xs) (lo hi : Option Int) : RVs K H (FW.cut vs lo hi) (cutV xs lo hi) := by
  unfold FW.cut cutV
  rw [← r.len]
  exact (r.drop _).take _
theorem RVs.atI {K : PySem.W.Frag} {H : Hp} {vs : List Val} {xs : List V} (r : RVs K H vs xs) {i : Int} {v : Val} (h : L2.atI vs i = some v) : ∃ x, L2.atI xs i = some x ∧ RV K H v x := by
  unfold L2.atI at h ⊢
  rw [r.len] at h
  cases e : ixN xs.length i with
  | none => rw [e] at h; cases h
  | some j => rw [e] at h; exact r.get h
/-- o[i] -/
theorem snd_ix (hr : RoomU X.A) : IxR X (R2of X.K ca semIx) := by
  intro value slice pins s σ H x y v u Q I rx ry ⟨S, a, b, P, rs, ra, rb, hm, f⟩ hs
  have gen : ((∃ vs j z, its S a = some vs ∧ b = .int j ∧ atI vs j = some z ∧ P z S) ∨ (∃ z, look S a b = some (some z) ∧ P z S)) → wpAny (model X.prog X.w) X.A (subscriptTail value slice v u) (EP X pins σ Q) X.xe s := by
    rintro (⟨vs, j, z, h1, rfl, h2, p⟩ | ⟨z, h1, p⟩)
    · obtain ⟨q, xs, rfl, hq, rr⟩ := ra.its rs h1
      obtain ⟨w, e, rw'⟩ := rr.atI h2
      cases rb
      rcases hq with hq | hq
      · exact ix_list value slice pins s σ H _ _ v u Q I rx ry ⟨q, xs, j, w, rfl, rfl, hq, e, f.val rs p rw'⟩ hs
      · exact ix_tup value slice pins s σ H _ _ v u Q I rx ry ⟨q, xs, j, w, rfl, rfl, hq, e, f.val rs p rw'⟩ hs
    · obtain ⟨H1, q, z', I1, rs1, st, rfl, g, _, hz⟩ := Inv.look I rs ra rb h1
      cases rx
      rcases hz with ⟨h2, _⟩ | ⟨v', w, h2, rfl, rw'⟩
      · cases h2
      · cases h2
        exact tail_any (dict_typeIs I1 g) PySem.F.slot_dict_getitem.lookup (d_getItem (hr.u1) I1 g ry fun w' s3 I3 rw2 => ⟨w, H1, I3, rw2, f _ S p H1 _ st rs1 rw'⟩) hs
  cases a <;> (try exact gen hm)
  cases b <;> (try exact gen hm)
  obtain ⟨h1, c, h2, p⟩ := hm
  cases ra
  cases rb
  exact ix_str value slice pins s σ H _ _ v u Q I rx ry ⟨_, _, c, rfl, rfl, by rw [line_is]; exact h1, h2, f.val rs p (.str _)⟩ hs
/-- o[lo:hi] -/
def RSlof (K : PySem.W.Frag) (ca : Nat → Addr) : V → Option Int → Option Int → Hp → VK → Prop := fun x lo hi H Q => ∃ S v P, RS K ca H S ∧ RV K H v x ∧ semSl v lo hi S P ∧ FinP K ca S H P Q
theorem snd_sl : SlR X (RSlof X.K ca) := by
  intro pins s σ H x v vl vu lo hi sl Q I rx hs pl pu ⟨S, a, P, rs, ra, hm, f⟩
  have gen : (∃ vs, lts S a = some vs ∧ allo S (.lst (cut vs lo hi)) P) → ∃ T id, typeLookup (.type T) "__getitem__" = pure (some (.builtin id)) ∧ s.TypeIs v T ∧ wpAny (model X.prog X.w) X.A (getItem v (.ref sl)) (EP X pins σ Q) X.xe s := by
    rintro ⟨vs, h1, p⟩
    obtain ⟨q, xs, rfl, hq, rr⟩ := ra.lts rs h1
    exact sl_list pins s σ H _ v vl vu lo hi sl Q I rx hs pl pu ⟨q, xs, rfl, hq, f.lst rs p (rr.cut lo hi)⟩
  cases a <;> (try exact gen hm)
  · cases ra
    exact sl_str pins s σ H _ v vl vu lo hi sl Q I rx hs pl pu ⟨_, rfl, by rw [line_is]; exact hm.1, f.val rs hm.2 (.str _)⟩
  · rename_i vs
    cases ra with
    | tup e rr =>
      rename_i q xs
      refine sl_tupA pins s σ H _ v vl vu lo hi sl Q I rx hs pl pu ⟨q, xs, rfl, .of e, fun hw => ?_, fun _ => f.tup rs hm (rr.cut lo hi)⟩
      have e2 : cutV xs lo hi = xs := by
        unfold cutV
        rw [hw.1, hw.2, List.drop_zero, Nat.sub_zero, List.take_length]
      exact f.val rs hm (.tup e (by have := rr.cut lo hi; rw [e2] at this; exact this))
/-! ### built-ins -/
def RBof (K : PySem.W.Frag) (ca : Nat → Addr) (b : Bi) : List V → Hp → VK → Prop := fun xs H Q => ∃ S vs P, RS K ca H S ∧ RVs K H vs xs ∧ semBi b vs S P ∧ FinP K ca S H P Q
def biV : Bi → Value
  | .len => .builtin "len"
  | .int_ => .type "int"
  | .str_ => .type "str"
  | .list_ => .type "list"
  | .tuple_ => .type "tuple"
  | .max_ => .builtin "max"
  | .min_ => .builtin "min"
  | .abs_ => .builtin "abs"
  | .all_ => .builtin "all"
  | .any_ => .builtin "any"
  | .sorted_ => .builtin "sorted"
theorem rvs1 {K : PySem.W.Frag} {H : Hp} {v : Val} {xs : List V} (r : RVs K H [v] xs) : ∃ x, xs = [x] ∧ RV K H v x := by
  cases r with
  | cons h t => cases t; exact ⟨_, rfl, h⟩
theorem snd_len (hr : RoomU X.A) : CallR X (.builtin "len") (RBof X.K ca .len) := by
  intro pins s σ H xs us Q I r ⟨S, vs, P, rs, rv, hm, f⟩
  match vs, hm with
  | [v], hm =>
    obtain ⟨x, rfl, rx⟩ := rvs1 rv
    have gen : ((∃ vs, its S v = some vs ∧ P (.int vs.length) S) ∨ ∃ kvs, dct S v = some kvs ∧ P (.int kvs.length) S) → wpAny (model X.prog X.w) X.A (call (.builtin "len") us) (EP X pins σ Q) X.xe s := by
      rintro (⟨ws, h1, p⟩ | ⟨kvs, h1, p⟩)
      · obtain ⟨q, ys, rfl, hq, rr⟩ := rx.its rs h1
        exact call_len_seq pins s σ H _ us Q I r ⟨q, ys, rfl, hq, by rw [← rr.len]; exact f.val rs p (.int _)⟩
      · cases rx with
        | ref a =>
          unfold dct at h1
          simp only at h1
          split at h1
          · rename_i e
            cases h1
            rcases rs a _ e with ⟨t, eh, rd⟩ | ⟨t, eh, rd⟩
            · exact call_lenD pins s σ H _ us Q I r ⟨a, t, rfl, eh, by rw [← rd.length]; exact f.val rs p (.int _)⟩
            · exact call_len_dT pins s σ H _ us Q I r ⟨a, t, rfl, eh, by rw [← rd.length]; exact f.val rs p (.int _)⟩
          · cases h1
        | _ => cases h1
    change semLen v S P at hm
    cases v <;> (try exact gen hm)
    cases rx
    exact call_len_str pins s σ H _ us Q I r ⟨_, rfl, by rw [line_is]; exact hm.1, f.val rs hm.2 (.int _)⟩
theorem snd_int : CallR X (.type "int") (RBof X.K ca .int_) := by
  intro pins s σ H xs us Q I r ⟨S, vs, P, rs, rv, hm, f⟩
  match vs, hm with
  | [v], hm =>
    obtain ⟨x, rfl, rx⟩ := rvs1 rv
    change semInt v S P at hm
    cases v <;> simp only [semInt] at hm <;> (try exact hm.elim)
    · cases rx; exact call_int1 pins s σ H _ us Q I r (.inr ⟨_, rfl, f.val rs hm (.int _)⟩)
    · cases rx; exact call_int1 pins s σ H _ us Q I r (.inl ⟨_, rfl, f.val rs hm (.int _)⟩)
    · obtain ⟨n, h1, h2, p⟩ := hm
      cases rx; exact call_int_str pins s σ H _ us Q I r ⟨_, n, rfl, h1, h2, f.val rs p (.int _)⟩
theorem snd_str : CallR X (.type "str") (RBof X.K ca .str_) := by
  intro pins s σ H xs us Q I r ⟨S, vs, P, rs, rv, hm, f⟩
  match vs, hm with
  | [v], hm =>
    obtain ⟨x, rfl, rx⟩ := rvs1 rv
    change semStr v S P at hm
    cases v <;> simp only [semStr] at hm <;> (try exact hm.elim)
    · cases rx; exact call_str_int pins s σ H _ us Q I r ⟨_, rfl, hm.1, f.val rs hm.2 (.str _)⟩
    · cases rx; exact SkE.call_str_str pins s σ H _ us Q I r ⟨_, rfl, f.val rs hm (.str _)⟩
theorem RVs.ofKeys {K : PySem.W.Frag} {H : Hp} : ∀ {vs : List Val} {q : List Key}, ksOf vs = some q → RVs K H vs (q.map kV)
  | [], _, h => by cases h; exact .nil
  | v :: vs, q, h => by
    unfold ksOf at h
    split at h
    · rename_i e1 e2
      cases h
      refine .cons ?_ (RVs.ofKeys e2)
      cases v <;> simp [kOf] at e1 <;> subst e1 <;> constructor
    · cases h
theorem RD.valsA {κ : Type} {K : PySem.W.Frag} {H : Hp} {f : Val → Option κ} : ∀ {kvs : List (Val × Val)} {t : List (κ × V)}, RD K H f kvs t → RVs K H (kvs.map (·.2)) (t.map (·.2))
  | _, _, .nil => .nil
  | _, _, .cons _ h r => .cons h (RD.valsA r)
theorem RD.keysK {K : PySem.W.Frag} {H : Hp} : ∀ {kvs : List (Val × Val)} {t : List (Key × V)}, RD K H kOf kvs t → RVs K H (kvs.map (·.1)) (t.map fun kv => kV kv.1)
  | _, _, .nil => .nil
  | _, _, .cons (k := k) e _ r => by
    refine .cons ?_ (RD.keysK r)
    cases k <;> simp [kOf] at e <;> subst e <;> constructor
theorem RD.keysT {K : PySem.W.Frag} {H : Hp} : ∀ {kvs : List (Val × Val)} {t : List (List Key × V)} {bs : List Addr}, RD K H ktOf kvs t → IsKeys H t bs → RVs K H (kvs.map (·.1)) (bs.map V.ref)
  | _, _, _, .nil, h => by cases h; exact .nil
  | _, _, _, .cons (k := k) e _ r, h => by
    cases h with
    | cons hb ht =>
      refine .cons ?_ (RD.keysT r ht)
      cases k <;> simp [ktOf] at e
      exact .tup hb (RVs.ofKeys e)
theorem snd_list (hc : X.calm = true) : CallR X (.type "list") (RBof X.K ca .list_) := by
  intro pins s σ H xs us Q I r ⟨S, vs, P, rs, rv, hm, f⟩
  match vs, hm with
  | [v], hm =>
    obtain ⟨x, rfl, rx⟩ := rvs1 rv
    change semList v S P at hm
    rcases hm with ⟨ws, h1, p⟩ | ⟨kvs, h1, p⟩
    · obtain ⟨q, ys, rfl, hq, rr⟩ := rx.its rs h1
      exact call_list_of pins s σ H _ us Q I r ⟨q, ys, rfl, hq, f.lst rs p rr⟩
    · cases rx with
      | ref a =>
        unfold dct at h1
        simp only at h1
        split at h1
        · rename_i e
          cases h1
          rcases rs a _ e with ⟨t, eh, rd⟩ | ⟨t, eh, rd⟩
          · exact call_list_dK hc pins s σ H _ us Q I r ⟨a, t, rfl, eh, f.lst rs p rd.keysK⟩
          · exact call_list_dT hc pins s σ H _ us Q I r ⟨a, t, rfl, .inl eh, fun p' bs hp hb => f.lst rs p (rd.keysT hb) p' hp⟩
        · cases h1
      | _ => cases h1
theorem snd_tuple : CallR X (.type "tuple") (RBof X.K ca .tuple_) := by
  intro pins s σ H xs us Q I r ⟨S, vs, P, rs, rv, hm, f⟩
  match vs, hm with
  | [v], hm =>
    obtain ⟨x, rfl, rx⟩ := rvs1 rv
    have gen : (∃ vs, lts S v = some vs ∧ P (.tup vs) S) → wpAny (model X.prog X.w) X.A (call (.type "tuple") us) (EP X pins σ Q) X.xe s := by
      rintro ⟨ws, h1, p⟩
      obtain ⟨q, ys, rfl, hq, rr⟩ := rx.lts rs h1
      exact call_tuple_of pins s σ H _ us Q I r ⟨q, ys, rfl, .inl ⟨hq, f.tup rs p rr⟩⟩
    change semTuple v S P at hm
    cases v <;> (try exact gen hm)
    cases rx with
    | tup e q => exact call_tuple_of pins s σ H _ us Q I r ⟨_, _, rfl, .inr ⟨.of e, f.val rs hm (.tup e q)⟩⟩
theorem snd_all (hc : X.calm = true) : CallR X (.builtin "all") (RBof X.K ca .all_) := by
  intro pins s σ H xs us Q I r ⟨S, vs, P, rs, rv, hm, f⟩
  match vs, hm with
  | [v], hm =>
    obtain ⟨x, rfl, rx⟩ := rvs1 rv
    obtain ⟨bs, h1, p⟩ : semAll v S P := hm
    obtain ⟨q, ys, rfl, hq, rr⟩ := rx.lts rs h1
    rw [rr.bls] at hq
    exact cr_all hc pins s σ H _ us Q I r ⟨q, bs, rfl, hq, f.val rs p (.bl _)⟩
theorem snd_any (hc : X.calm = true) : CallR X (.builtin "any") (RBof X.K ca .any_) := by
  intro pins s σ H xs us Q I r ⟨S, vs, P, rs, rv, hm, f⟩
  match vs, hm with
  | [v], hm =>
    obtain ⟨x, rfl, rx⟩ := rvs1 rv
    obtain ⟨bs, h1, p⟩ : semAny v S P := hm
    obtain ⟨q, ys, rfl, hq, rr⟩ := rx.lts rs h1
    rw [rr.bls] at hq
    exact cr_any hc pins s σ H _ us Q I r ⟨q, bs, rfl, hq, f.val rs p (.bl _)⟩
theorem rvs2 {K : PySem.W.Frag} {H : Hp} {i j : Int} {xs : List V} (r : RVs K H [.int i, .int j] xs) : xs = [.int i, .int j] := by
  cases r with
  | cons h t =>
    cases h
    cases t with
    | cons h t => cases h; cases t; rfl
theorem snd_max (hc : X.calm = true) : CallR X (.builtin "max") (RBof X.K ca .max_) := by
  intro pins s σ H xs us Q I r ⟨S, vs, P, rs, rv, hm, f⟩
  have one : ∀ v, vs = [v] → (∃ ns : List Int, lts S v = some (ns.map Val.int) ∧ 0 < ns.length ∧ ∀ m, m ∈ ns → (∀ y, y ∈ ns → y ≤ m) → P (.int m) S) → wpAny (model X.prog X.w) X.A (call (.builtin "max") us) (EP X pins σ Q) X.xe s := by
    rintro v rfl ⟨ns, h1, h2, p⟩
    obtain ⟨x, rfl, rx⟩ := rvs1 rv
    obtain ⟨q, ys, rfl, hq, rr⟩ := rx.lts rs h1
    rw [rr.ints] at hq
    exact cr_max hc pins s σ H _ us Q I r ⟨q, ns, rfl, hq, h2, fun m h3 h4 => f.val rs (p m h3 h4) (.int _)⟩
  unfold semBi at hm
  split at hm <;> rename_i e <;> (try (cases e; done))
  · rw [rvs2 rv] at r
    exact call_max2 hc pins s σ H _ us Q I r ⟨_, _, rfl, f.val rs hm (.int _)⟩
  · exact one _ rfl hm
  all_goals first | exact hm.elim | skip
theorem snd_abs : CallR X (.builtin "abs") (RBof X.K ca .abs_) := by
  intro pins s σ H xs us Q I r ⟨S, vs, P, rs, rv, hm, f⟩
  match vs, hm with
  | [.int i], hm =>
    obtain ⟨x, rfl, rx⟩ := rvs1 rv
    cases rx
    exact call_abs pins s σ H _ us Q I r ⟨i, rfl, f.val rs hm (.int _)⟩
/-! ### sorted -/
theorem RVs.zipped {K : PySem.W.Frag} {H : Hp} {s : Shared} (R : Val → V → Value → Prop) : ∀ {vs : List Val} {xs : List V} {us : List Value}, RVs K H vs xs → Vals xs us → (∀ v x u, v ∈ vs → RV K H v x → RelV x u → R v x u) →
    PySem.W.EachIs (fun u (b : Val × V) => R b.1 b.2 u) us (vs.zip xs)
  | _, _, _, .nil, .nil, _ => .nil
  | _, _, _, .cons r t, .cons r' t', h => .cons (h _ _ _ List.mem_cons_self r r') (RVs.zipped (s := s) R t t' fun v x u hv => h v x u (List.mem_cons_of_mem _ hv))
theorem zip_fst {K : PySem.W.Frag} {H : Hp} : ∀ {vs : List Val} {xs : List V}, RVs K H vs xs → (vs.zip xs).map (·.1) = vs
  | _, _, .nil => rfl
  | _, _, .cons _ t => by rw [List.zip_cons_cons, List.map_cons, zip_fst t]
theorem each_rv {K : PySem.W.Frag} {H : Hp} : ∀ {us : List Value} {bs : List (Val × V)}, PySem.W.EachIs (fun u (b : Val × V) => RV K H b.1 b.2 ∧ RelV b.2 u) us bs → RVs K H (bs.map (·.1)) (bs.map (·.2)) ∧ Vals (bs.map (·.2)) us
  | _, _, .nil => ⟨.nil, .nil⟩
  | _, _, .cons h t => ⟨.cons h.1 (each_rv t).1, .cons h.2 (each_rv t).2⟩
theorem purs_mem : ∀ {vs : List Val}, Val.purs vs = true → ∀ v ∈ vs, v.pur = true
  | [], _, v, h => by cases h
  | w :: vs, h, v, hv => by
    unfold Val.purs at h
    rw [Bool.and_eq_true] at h
    rcases List.mem_cons.mp hv with e | e
    · rw [e]; exact h.1
    · exact purs_mem h.2 v e
theorem snd_sorted (hr : RoomU X.A) : CallR X (.builtin "sorted") (RBof X.K ca .sorted_) := by
  intro pins s σ H xs us Q I r ⟨S, vs, P, rs, rv, hm, f⟩
  match vs, hm with
  | [v], hm =>
    obtain ⟨x, rfl, rx⟩ := rvs1 rv
    obtain ⟨ws, h1, hp, hal, hso, hd, p⟩ : semSorted v S P := hm
    obtain ⟨q, ys, rfl, hq, rr⟩ := rx.lts rs h1
    obtain ⟨u, rfl, ru⟩ := vals1 r
    cases ru
    obtain ⟨its, ri, pl, hz⟩ := I.list hq
    have em : (ws.zip ys).map (fun b => b.1.pd) = ws.map Val.pd := by
      rw [show (fun b : Val × V => b.1.pd) = Val.pd ∘ (·.1) from rfl, ← List.map_map, zip_fst rr]
    refine PySem.W.sorted_data (vs := its) (bs := ws.zip ys) (enc := fun b => b.1.pd) (R := fun u (b : Val × V) => RV X.K H b.1 b.2 ∧ RelV b.2 u) pl.isList (rr.zipped (s := s) (fun v x u => RV X.K H v x ∧ RelV x u) ri fun v x u _ h1 h2 => ⟨h1, h2⟩)
      (rr.zipped (s := s) (fun v x u => ∃ as, Reads s.heap u v.pd as) ri fun v x u hv h1 h2 => Dp.reads I v.pd x u (h1.dp rs (Dv.of_pur (purs_mem hp v hv))) h2) (by rw [em]; exact hal) (by rw [em]; exact hso) ?_ (fun b hb => ?_) fun out hl he => ?_
    · rw [List.length_zip, rr.len, Nat.min_self]; exact hz
    · have h5 : b.1 ∈ ws := by
        have := List.mem_map_of_mem (f := (·.1)) hb
        rw [zip_fst rr] at this; exact this
      have h6 := hd b.1 h5
      have := hr.un
      show X.A.units + 2 + (b.1.pd).depth < cLine
      omega
    · obtain ⟨c, hc⟩ := PyProof.Rows.sortedAll_at s.heap its out.toArray
      obtain ⟨g1, g2⟩ := each_rv he
      have e1 : ((ws.zip ys).mergeSort (PySem.W.dataLe false fun b => b.1.pd)).map (·.1) = ws.mergeSort vle := by
        rw [PySem.W.sort_maps (r := PySem.W.dataLe false fun b : Val × V => b.1.pd) (s := vle) (fun b : Val × V => b.1) fun _ _ _ _ => rfl, zip_fst rr]
      rw [e1] at g1
      have hfr : H (s.heap.objs.size + 1) = none := I.hok.fresh (Nat.le_succ _)
      refine ⟨.ref (s.heap.objs.size + 1), _, I.laid (a := s.heap.objs.size + 1) (t' := s.toks) (o := .lst (((ws.zip ys).mergeSort (PySem.W.dataLe false fun b => b.1.pd)).map (·.2))) (fun b o e => PyProof.Rows.sortedAll_old e) (Nat.le_succ _) ⟨?_, out, c, g2, hc⟩, rfl, f.lst rs p g1 _ hfr⟩
      rw [g2.length, hl, List.length_zip, rr.len, Nat.min_self]; exact hz
theorem sLe_iff (a b : Val) : vle a b = true ↔ PySem.W.dataLt b.pd a.pd = false := by
  unfold vle PySem.W.dataLe PySem.W.sortLe
  show (!PySem.W.dataLt b.pd a.pd) = true ↔ _
  cases PySem.W.dataLt b.pd a.pd <;> simp
theorem le_total (a b : PyData) : PySem.W.dataLt b a = false ∨ PySem.W.dataLt a b = false := by
  have := (PySem.W.sortLe_total (listOrd itemOrd) false fun d : PyData => PySem.W.keyToks d).total a b
  rcases this with h | h
  · left
    show PySem.W.dataLt b a = false
    have h : (!PySem.W.dataLt b a) = true := h
    simpa using h
  · right
    have h : (!PySem.W.dataLt a b) = true := h
    simpa using h
theorem le_trans3 (a b c : PyData) (h : PySem.W.dataLt b a = false) (g : PySem.W.dataLt c b = false) : PySem.W.dataLt c a = false := by
  have := (PySem.W.sortLe_total (listOrd itemOrd) false fun d : PyData => PySem.W.keyToks d).trans a b c (by
    show (!PySem.W.dataLt b a) = true
    rw [h]; rfl) (by
    show (!PySem.W.dataLt c b) = true
    rw [g]; rfl)
  have this : (!PySem.W.dataLt c a) = true := this
  simpa using this
theorem minD_least : ∀ (ys : List PyData) (x : PyData), PySem.W.dataLt x (PySem.W.minD x ys) = false ∧ ∀ y ∈ ys, PySem.W.dataLt y (PySem.W.minD x ys) = false
  | [], x => ⟨by rcases le_total x x with h | h <;> exact h, fun _ h => nomatch h⟩
  | y :: ys, x => by
    have e : PySem.W.minD x (y :: ys) = PySem.W.minD (if PySem.W.dataLt y x then y else x) ys := rfl
    obtain ⟨h1, h2⟩ := minD_least ys (if PySem.W.dataLt y x then y else x)
    rw [e]
    by_cases c : PySem.W.dataLt y x = true
    · rw [if_pos c] at h1 h2 ⊢
      refine ⟨?_, fun z hz => ?_⟩
      · refine le_trans3 _ y _ h1 ?_
        rcases le_total y x with h | h
        · exact h
        · rw [h] at c; cases c
      · rcases List.mem_cons.mp hz with rfl | hz
        · exact h1
        · exact h2 z hz
    · rw [if_neg c] at h1 h2 ⊢
      refine ⟨h1, fun z hz => ?_⟩
      rcases List.mem_cons.mp hz with rfl | hz
      · exact le_trans3 _ x _ h1 (by simpa using c)
      · exact h2 z hz
theorem snd_min (hc : X.calm = true) (hr : RoomU X.A) : CallR X (.builtin "min") (RBof X.K ca .min_) := by
  intro pins s σ H xs us Q I r ⟨S, vs, P, rs, rv, hm, f⟩
  have one : ∀ v, vs = [v] → semMin v S P → wpAny (model X.prog X.w) X.A (call (.builtin "min") us) (EP X pins σ Q) X.xe s := by
    rintro v rfl (⟨ns, h1, h2, p⟩ | ⟨ws, h1, hp, hal, hso, hd, h0, p⟩)
    · obtain ⟨x, rfl, rx⟩ := rvs1 rv
      obtain ⟨q, ys, rfl, hq, rr⟩ := rx.lts rs h1
      rw [rr.ints] at hq
      exact cr_min hc pins s σ H _ us Q I r ⟨q, ns, rfl, hq, h2, fun m h3 h4 => f.val rs (p m h3 h4) (.int _)⟩
    · obtain ⟨x, rfl, rx⟩ := rvs1 rv
      obtain ⟨q, ys, rfl, hq, rr⟩ := rx.lts rs h1
      obtain ⟨u, rfl, ru⟩ := vals1 r
      cases ru
      obtain ⟨its, ri, pl, hz⟩ := I.list hq
      cases ws with
      | nil => simp at h0
      | cons w0 wt =>
        have rd : ∃ as, ReadsAll s.heap its ((w0 :: wt).map Val.pd) as := by
          have : ∀ {ws : List Val} {ys : List V} {its : List Value}, RVs X.K H ws ys → Vals ys its → (∀ w ∈ ws, w.pur = true) → ∃ as, ReadsAll s.heap its (ws.map Val.pd) as := by
            intro ws
            induction ws with
            | nil => intro ys its a b _; cases a; cases b; exact ⟨_, .nil⟩
            | cons w ws ih =>
              intro ys its a b hp
              cases a with
              | cons a1 a2 =>
                cases b with
                | cons b1 b2 =>
                  obtain ⟨as2, r2⟩ := ih a2 b2 fun z hz => hp z (List.mem_cons_of_mem _ hz)
                  obtain ⟨as1, r1⟩ := Dp.reads I w.pd _ _ (a1.dp rs (Dv.of_pur (hp w List.mem_cons_self))) b1
                  exact ⟨_, .cons r1 r2⟩
          exact this rr ri (purs_mem hp)
        obtain ⟨as, rd⟩ := rd
        have hun := hr.un
        have dp : PyData.depthAll ((w0 :: wt).map Val.pd) ≤ 60 := by
          have : ∀ ws : List Val, (∀ v ∈ ws, v.pd.depth ≤ 60) → PyData.depthAll (ws.map Val.pd) ≤ 60 := by
            intro ws
            induction ws with
            | nil => intro _; simp [PyData.depthAll]
            | cons w ws ih =>
              intro h
              rw [List.map_cons, PyData.depthAll]
              exact Nat.max_le.mpr ⟨h w List.mem_cons_self, ih fun v hv => h v (List.mem_cons_of_mem _ hv)⟩
          exact this _ fun v hv => hd v hv
        refine PySem.W.min_list_data (x := w0.pd) (xs := wt.map Val.pd) (as := as) (I.ok.hd hc) pl.isList (by simpa using rd) ⟨hal, fun x hx => ?_⟩ (by show X.A.units + 1 + _ < cLine; have : PyData.depthAll (w0.pd :: wt.map Val.pd) ≤ 60 := dp; omega) fun i v h' tk bs hv hrd hk => ?_
        · rcases hso with h | h
          · obtain ⟨y, r, e⟩ := h x hx
            rw [e]; exact fun z => by cases z
          · exact (h x hx).1
        · have hi : ∃ w y, (w0 :: wt)[i]? = some w ∧ ys[i]? = some y ∧ RV X.K H w y ∧ RelV y v := by
            have : ∀ {ws : List Val} {ys : List V} {its : List Value} {i : Nat}, RVs X.K H ws ys → Vals ys its → its[i]? = some v → ∃ w y, ws[i]? = some w ∧ ys[i]? = some y ∧ RV X.K H w y ∧ RelV y v := by
              intro ws
              induction ws with
              | nil => intro ys its i a b e; cases a; cases b; simp at e
              | cons w ws ih =>
                intro ys its i a b e
                cases a with
                | cons a1 a2 =>
                  cases b with
                  | cons b1 b2 =>
                    cases i with
                    | zero => simp at e; subst e; exact ⟨_, _, rfl, rfl, a1, b1⟩
                    | succ i => exact ih a2 b2 (by simpa using e)
            exact this rr ri (by simpa using hv)
          obtain ⟨w, y, hw, hy, h5, h6⟩ := hi
          have hm := List.mem_of_getElem? hw
          obtain ⟨as1, r1⟩ := Dp.reads I w.pd _ _ (h5.dp rs (Dv.of_pur (purs_mem hp w hm))) h6
          have e : w.pd = PySem.W.minD w0.pd (wt.map Val.pd) := (Reads.unique (Reads.keeps hk r1) _ _ hrd).1
          refine ⟨y, H, I.kept hk, h6, f.val rs (p w hm fun z hz => ?_) h5⟩
          rw [sLe_iff, e]
          obtain ⟨l1, l2⟩ := minD_least (wt.map Val.pd) w0.pd
          rcases List.mem_cons.mp hz with rfl | hz
          · exact l1
          · exact l2 _ (List.mem_map.mpr ⟨z, hz, rfl⟩)
  unfold semBi at hm
  split at hm <;> rename_i e <;> (try (cases e; done))
  · rw [rvs2 rv] at r
    exact call_min2 hc pins s σ H _ us Q I r ⟨_, _, rfl, f.val rs hm (.int _)⟩
  · exact one _ rfl hm
  all_goals first | exact hm.elim | skip
/-! ### every built-in -/
theorem snd_bi (hc : X.calm = true) (hr : RoomU X.A) (b : Bi) : CallR X (biV b) (RBof X.K ca b) := by
  cases b
  · exact snd_len hr
  · exact snd_int
  · exact snd_str
  · exact snd_list hc
  · exact snd_tuple
  · exact snd_max hc
  · exact snd_min hc hr
  · exact snd_abs
  · exact snd_all hc
  · exact snd_any hc
  · exact snd_sorted hr
theorem bi_boot (b : Bi) : bootBuiltins (biN b) = some (biV b) := by
  cases b <;> decide +kernel
/-! ### o[i] = v -/
def RSetof (K : PySem.W.Frag) (ca : Nat → Addr) : TSet := fun o i x H Q => ∃ S vo vi v P, RS K ca H S ∧ RV K H vo o ∧ RV K H vi i ∧ RV K H v x ∧ semSet vo vi v S P ∧ ∀ S', P S' → ∀ H', Step S H S' H' → RS K ca H' S' → Q H'
theorem snd_set (hr : RoomU X.A) : PSet X (RSetof X.K ca) := by
  intro pins s σ H o i x ov iv u Q I ro ri rx ⟨S, vo, vi, v, P, rs, hvo, hvi, hv, hm, f⟩
  rcases hm with ⟨a, xs, j, n, rfl, rfl, e, hn, p⟩ | ⟨a, kvs, rfl, e, hs, hl, p⟩
  · cases hvo
    cases hvi
    obtain ⟨ys, hy, rr⟩ := rs a _ e
    have nf : ∀ v, H a = some v → Fix v = false := fun v z => by rw [hy] at z; cases z; rfl
    refine set_list pins s σ H _ _ x ov iv u Q I ro ri rx ⟨a, ys, j, n, rfl, rfl, hy, by rw [← rr.len]; exact hn, ?_⟩
    exact f _ p _ (Step.wr (by rw [e]; exact fun z => nomatch z)) (rs.put nf ⟨_, upd_same, (RVs.set hv n rr).mono (tupK_upd nf)⟩)
  · cases hvo
    obtain ⟨H1, I1, rs1, st, q⟩ := Inv.suit I rs e hs
    have tk := st.tup rs
    have hl' : kvs.length < sizeLine := by rw [line_is]; exact hl
    rcases q with ⟨q, t, ek, eh, rd⟩ | ⟨q, t, ek, eh, rd⟩
    · have nf : ∀ v, H1 a = some v → Fix v = false := fun v z => by rw [eh] at z; cases z; rfl
      have ei := (hvi.mono tk).key ek
      subst ei
      refine set_dict (hr.u1) pins s σ H1 _ _ x ov iv u Q I1 ro ri rx ⟨a, _, rfl, DPut.k eh (by rw [← rd.length]; exact hl'), ?_⟩
      exact f _ p _ (st.trans (Step.wr (by rw [e]; exact fun z => nomatch z))) (rs1.put nf (.inl ⟨_, upd_same, (rd.put (fun _ _ _ => kOf_inj) ek (hv.mono tk)).mono (tupK_upd nf)⟩))
    · have nf : ∀ v, H1 a = some v → Fix v = false := fun v z => by rw [eh] at z; cases z; rfl
      obtain ⟨b, ei, eb⟩ := (hvi.mono tk).keyT ek
      subst ei
      refine set_dict (hr.u1) pins s σ H1 _ _ x ov iv u Q I1 ro ri rx ⟨a, _, rfl, DPut.t eh eb (by rw [← rd.length]; exact hl'), ?_⟩
      exact f _ p _ (st.trans (Step.wr (by rw [e]; exact fun z => nomatch z))) (rs1.put nf (.inr ⟨_, upd_same, (rd.put (fun _ _ _ => ktOf_inj) ek (hv.mono tk)).mono (tupK_upd nf)⟩))
end
end FW

set_option Elab.async false
set_option linter.all false
set_option maxRecDepth 100000
/-! Methods of built-in types, isinstance. -/
namespace FW
open PySem PySem.Spec PyProof.Rows L2
/-! ### list.remove of a text; setdefault at a tuple -/
section
variable {X : Cx} {pins : List (Addr × Obj)} {σ : L2.St} {H : Hp} {s : Shared} {a b : Addr} {u r : Value} {d : V} {ks : List Key} {A : Around} {E : Value → Shared → Prop}
theorem d_setdT {kvs : List (List Key × V)} {Q : Value → Shared → Prop} (hu : A.units + 1 < cLine) (I : Inv X pins σ H s) (e : H a = some (.dT kvs)) (ry : RelV (.ref b) u) (eb : H b = some (.tup (ks.map kV))) (rd : RelV d r) (hl : kvs.length < sizeLine)
    (h1 : ∀ v, valV kvs ks = some v → ∀ (w' : Value) (s' : Shared), Inv X pins σ H s' → RelV v w' → Q w' s') (h2 : valV kvs ks = none → ∀ (w' : Value) (s' : Shared), Inv X pins σ (upd H a (.dT (putK kvs ks d))) s' → RelV d w' → Q w' s') :
    wpAny (model X.prog X.w) A (call (.builtin "dict.setdefault") [.ref a, u, r]) Q E s := by
  cases (show u = Value.ref b from ry)
  obtain ⟨z, hd, xs, rel, dd⟩ := dt_of I.hok e
  have hz : xs.length ≤ sizeLine := by rw [← Paired.length rel]; exact z
  have hl2 : (putK kvs ks d).length ≤ sizeLine := by have := length_putK kvs ks d; omega
  refine call_setdefault_heap (hsz := hz) (tupleKind_room_in1 hu) (key_of I.hok eb) hd dd (fun p hp => ?_) fun hn h' dd' hs => ?_
  · have q := rel.val ks
    rw [hp] at q
    cases q0 : valV kvs ks with
    | none =>
      rw [q0] at q
      exact (show False from q).elim
    | some v0 =>
      rw [q0] at q
      exact h1 v0 q0 _ _ (I.tok _) q
  · have q := rel.val ks
    rw [hn] at q
    cases q0 : valV kvs ks with
    | some v0 =>
      rw [q0] at q
      exact (show False from q).elim
    | none =>
      obtain ⟨q, es, ep, hq, k2, k3, k4, _, k5⟩ := dd'
      refine h2 q0 _ _ (d_write I (by rw [e]; exact True.intro) hs ⟨q, hq⟩ ⟨hl2, hd, _, (rel.put ks eb rd).keeps fun c ys ec => ?_, q, es, ep, hq, k2, k3, k4, k5⟩) rd
      rw [upd_ne (ne_of ec e (fun z => nomatch z))]
      exact ec
end
def eqs (k : Str) (v : Value) : Bool := match v with
  | .str n _ => n.cps.toList == k.cps.toList
  | _ => false
theorem eqs_gives {k : Str} {t : Tok} : ∀ {us : List Value} {ns : List Str}, StrsAre us ns → ∀ y ∈ us, MeetsSeq.EqGives y (.str k t) (eqs k y)
  | _, _, .nil => fun y hy => by cases hy
  | _, _, .cons n t' h => fun y hy => by
    rcases List.mem_cons.mp hy with e | e
    · rw [e]
      exact SeqRoads2.EqGives.str n k t' t
    · exact eqs_gives h y e
theorem erase_mapS : ∀ (l : List Str) (j : Nat), (l.map V.str).eraseIdx j = (l.eraseIdx j).map V.str
  | [], j => by simp
  | a :: r, 0 => by simp
  | a :: r, j + 1 => by
    have ih := erase_mapS r j
    simp [ih]
theorem vals_erase : ∀ {xs : List V} {us : List Value} (j : Nat), Vals xs us → Vals (xs.eraseIdx j) (us.eraseIdx j)
  | _, _, _, .nil => .nil
  | _, _, 0, .cons _ t => t
  | _, _, j + 1, .cons h t => .cons h (vals_erase j t)
def rRemS : V → List V → Hp → VK → Prop := fun x xs H Q => ∃ (l : Addr) (ns : List Str) (k : Str) (j : Nat), x = .ref l ∧ xs = [.str k] ∧ H l = some (.lst (ns.map V.str)) ∧ ns[j]? = some k ∧ (∀ m : Nat, m < j → ns[m]? ≠ some k) ∧ Q .non (upd H l (.lst ((ns.eraseIdx j).map V.str)))
theorem mt_removeS {X : Cx} : MtR X "list.remove" rRemS := by
  intro pins s σ H x xs v us Q I rx rxs h
  obtain ⟨l, ns, k, j, rfl, rfl, hH, hj, hno, q⟩ := h
  cases rx
  obtain ⟨u, rfl, ru⟩ := vals1 rxs
  obtain ⟨t, rfl⟩ := ru
  obtain ⟨z, its, n, r, hl, e⟩ := I.lstM hH
  have hi := r.strs
  rw [List.length_map] at hl z
  have hjn : j < ns.length := (List.getElem?_eq_some_iff.mp hj).1
  have hjl : j < its.toArray.size := by rw [List.size_toArray]; omega
  have at_ : ∀ (m : Nat) (hm : m < its.toArray.size) (y : Str), ns[m]? = some y → ∃ t, its.toArray[m] = .str y t := fun m hm y hy => by
    obtain ⟨u, hu, ru⟩ := r.get (i := m) (x := .str y) (by rw [List.getElem?_map, hy]; rfl)
    obtain ⟨t, rfl⟩ := ru
    obtain ⟨h1, h2⟩ := List.getElem?_eq_some_iff.mp hu
    exact ⟨t, by simpa using h2⟩
  refine call_meets PySem.F.slot_list_remove ⟨_, e, rfl⟩ PySem.F.entry_list_remove (PySem.F.args_list_remove_2 _ _)
    (MeetsSeq.list_remove l its.toArray n (.str k t) (eqs k) (fun y hy => eqs_gives hi y (by simpa using hy)) j hjl ?_ ?_ (by rw [List.size_toArray]; omega)) ⟨e, ?_⟩
  · obtain ⟨tj, e1⟩ := at_ j hjl k hj
    rw [e1]
    exact beq_self_eq_true _
  · intro m hm hmj
    have hmn : m < ns.length := by omega
    obtain ⟨tm, e1⟩ := at_ m hm _ (List.getElem?_eq_getElem hmn)
    rw [e1]
    refine beq_eq_false_iff_ne.mpr fun e2 => hno m hmj ?_
    rw [List.getElem?_eq_getElem hmn, Str.ext' (Array.toList_inj.mp e2)]
  · have rr := vals_erase j r
    rw [erase_mapS] at rr
    refine ⟨.non, _, I.lset (its' := its.eraseIdx j) (t' := s.toks) hH e ?_ rr ?_, rfl, q⟩
    · show its.toArray.eraseIdxIfInBounds j = (its.eraseIdx j).toArray
      rw [List.eraseIdxIfInBounds_toArray]
    · have z2 := List.length_eraseIdx_le ns j
      rw [List.length_map]
      omega
section
variable {X : Cx} {ca : Nat → Addr} {k : Nat}
def RMof (K : PySem.W.Frag) (ca : Nat → Addr) (m : Mt) (T : MT) : V → List V → Hp → VK → Prop := fun x xs H Q => ∃ S o vs P, RS K ca H S ∧ RV K H o x ∧ RVs K H vs xs ∧ semMt m T o vs S P ∧ FinP K ca S H P Q
def mtS : MT → String
  | .tuple => "tuple"
  | .list => "list"
  | .dict => "dict"
  | .str => "str"
def mtId : Mt → MT → String
  | .append, _ => "list.append"
  | .extend, _ => "list.extend"
  | .index, .tuple => "tuple.index"
  | .index, _ => "list.index"
  | .pop, .dict => "dict.pop"
  | .pop, _ => "list.pop"
  | .clear, _ => "list.clear"
  | .get, _ => "dict.get"
  | .setdefault, _ => "dict.setdefault"
  | .join, _ => "str.join"
  | .split, _ => "str.split"
  | .upper, _ => "str.upper"
  | .remove, _ => "list.remove"
theorem FinP.wr {S : Sto} {H : Hp} {P : VP} {Q : VK} (f : FinP X.K ca S H P Q) (rs : RS X.K ca H S) {a : Addr} {xs ys : List V} {vs ws : List Val} {v : Val} {x : V} (e : S a = some (.lst vs)) (h : H a = some (.lst xs)) (p : P v (S.put a (.lst ws))) (rv : RV X.K H v x) (rr : RVs X.K H ws ys) :
    Q x (upd H a (.lst ys)) := by
  have nf : ∀ v, H a = some v → Fix v = false := fun v z => by rw [h] at z; cases z; rfl
  exact f v _ p _ _ (Step.wr (by rw [e]; exact fun z => nomatch z)) (rs.put nf ⟨_, upd_same, rr.mono (tupK_upd nf)⟩) (rv.mono (tupK_upd nf))
theorem RVs.dropLast {K : PySem.W.Frag} {H : Hp} {vs : List Val} {xs : List V} (r : RVs K H vs xs) : RVs K H vs.dropLast xs.dropLast := by
  rw [List.dropLast_eq_take, List.dropLast_eq_take, r.len]
  exact r.take _
theorem rvs_nil {K : PySem.W.Frag} {H : Hp} {xs : List V} (r : RVs K H [] xs) : xs = [] := by cases r; rfl
theorem rvs_two {K : PySem.W.Frag} {H : Hp} {v w : Val} {xs : List V} (r : RVs K H [v, w] xs) : ∃ x y, xs = [x, y] ∧ RV K H v x ∧ RV K H w y := by
  cases r with
  | cons h t => obtain ⟨y, rfl, hy⟩ := rvs1 t; exact ⟨_, y, rfl, h, hy⟩
theorem snd_mtr (hr : RoomU X.A) (m : Mt) (T : MT) : MtR X (mtId m T) (RMof X.K ca m T) := by
  intro pins s σ H x xs v us Q I rx rxs ⟨S, o, vs, P, rs, ro, rvs, hm, f⟩
  unfold semMt at hm
  split at hm
  · obtain ⟨a, ys, rfl, e, hl, p⟩ := hm
    cases ro
    obtain ⟨zs, h, rr⟩ := rs a _ e
    obtain ⟨y, rfl, ry⟩ := rvs1 rvs
    exact mt_append pins s σ H _ _ v us Q I rx rxs ⟨a, zs, y, rfl, rfl, h, by rw [line_is, ← rr.len]; exact hl, f.wr rs e h p .non (rr.append (.one ry))⟩
  · obtain ⟨a, b, ys, ws, rfl, rfl, e, e2, hl, p⟩ := hm
    cases ro
    obtain ⟨zs, h, rr⟩ := rs a _ e
    obtain ⟨qs, h2, rr2⟩ := rs b _ e2
    obtain ⟨y, rfl, ry⟩ := rvs1 rvs
    cases ry
    exact mt_extend pins s σ H _ _ v us Q I rx rxs ⟨a, b, zs, qs, rfl, rfl, h, h2, by rw [line_is, ← rr.len, ← rr2.len]; exact hl, f.wr rs e h p .non (rr.append rr2)⟩
  · obtain ⟨ys, j, z, e, fv, fs, hz, hzj, hno, p⟩ := hm
    obtain ⟨a, zs, rfl, hs, rr⟩ := ro.lts rs e
    obtain ⟨y, rfl, ry⟩ := rvs1 rvs
    obtain ⟨z', hz', rz⟩ := rr.get hz
    have fl : ∀ (i : Nat) (y' : Val), ys[i]? = some y' → flatW y' = true := fun i y' hy => List.all_eq_true.mp fs y' (List.mem_of_getElem? hy)
    refine mt_index pins s σ H _ _ v us Q I rx rxs ⟨a, zs, y, j, z', rfl, rfl, hs, ry.flat fv, rr.flat fs, hz', by rw [rz.eqf ry (fl j z hz) fv]; exact hzj, fun i w' hi hw => ?_, f.val rs p (.int _)⟩
    obtain ⟨w, hw1, hw2⟩ := rr.getX hw
    rw [hw2.eqf ry (fl i w hw1) fv]
    exact hno i w hi hw1
  · obtain ⟨ys, z, j, rfl, rfl, hz, hno, p⟩ := hm
    cases ro with
    | kt e q =>
      obtain ⟨_, rfl, ri⟩ := rvs1 rvs
      cases ri
      rw [q.strs] at e
      exact mt_tup_index pins s σ H _ _ v us Q I rx rxs ⟨_, ys, z, j, rfl, rfl, e.sqt, hz, hno, f.val rs p (.int _)⟩
  · obtain ⟨a, ys, y, rfl, e, hy, p⟩ := hm
    cases ro
    obtain ⟨zs, h, rr⟩ := rs a _ e
    cases rvs
    rw [rr.len] at hy
    obtain ⟨y', hy', ry⟩ := rr.get hy
    exact mt_pop pins s σ H _ _ v us Q I rx rxs ⟨a, zs, y', rfl, rfl, h, hy', f.wr rs e h p ry rr.dropLast⟩
  · obtain ⟨a, ys, j, n, y, rfl, rfl, e, h1, h2, h3, hy, p⟩ := hm
    cases ro
    obtain ⟨zs, h, rr⟩ := rs a _ e
    obtain ⟨_, rfl, ri⟩ := rvs1 rvs
    cases ri
    obtain ⟨y', hy', ry⟩ := rr.get hy
    rw [rr.len] at h3
    exact mt_popAt pins s σ H _ _ v us Q I rx rxs ⟨a, zs, j, n, y', rfl, rfl, h, h1, h2, h3, hy', f.wr rs e h p ry (rr.eraseIdx n)⟩
  · obtain ⟨a, kvs, z, rfl, e, hk, ha, hz, p⟩ := hm
    cases ro
    obtain ⟨_, rfl, ri⟩ := rvs1 rvs
    obtain ⟨u, rfl, ru⟩ := vals1 rxs
    cases rx
    obtain ⟨H1, I1, rs1, st, q⟩ := Inv.suit I rs e (by unfold suits; rw [hk, ha]; rfl)
    have tk := st.tup rs
    rcases q with ⟨q, t, ek, eh, rd⟩ | ⟨q, t, ek, eh, rd⟩
    · have ei := (ri.mono tk).key ek
      subst ei
      rcases rd.get (fun _ _ _ => kOf_inj) ek with ⟨e1, _⟩ | ⟨z', y, e1, e2, rz⟩
      · rw [hz] at e1; cases e1
      · rw [hz] at e1
        cases e1
        have nf : ∀ v, H1 a = some v → Fix v = false := fun v z => by rw [eh] at z; cases z; rfl
        refine d_pop (more := []) I1 eh ru e2 (.inl rfl) fun w' s' I' rw' => ⟨y, _, I', rw', ?_⟩
        exact f _ _ p _ _ (st.trans (Step.wr (by rw [e]; exact fun z => nomatch z))) (rs1.put nf (.inl ⟨_, upd_same, (rd.drop (fun _ _ _ => kOf_inj) ek).mono (tupK_upd nf)⟩)) (rz.mono (tupK_upd nf))
    · have h4 := kt_apart hk
      unfold keyT at h4
      rw [ek] at h4; cases h4
  · obtain ⟨a, ys, rfl, e, p⟩ := hm
    cases ro
    obtain ⟨zs, h, rr⟩ := rs a _ e
    cases rvs
    exact mt_clear pins s σ H _ _ v us Q I rx rxs ⟨a, zs, rfl, rfl, h, f.wr rs e h p .non .nil⟩
  · obtain ⟨a, ys, z, j, rfl, rfl, e, hj, hno, p⟩ := hm
    cases ro
    obtain ⟨zs, h, rr⟩ := rs a _ e
    have ez := rr.strs
    subst ez
    obtain ⟨_, rfl, ri⟩ := rvs1 rvs
    cases ri
    exact mt_removeS pins s σ H _ _ v us Q I rx rxs ⟨a, ys, z, j, rfl, rfl, h, hj, hno, f.wr rs e h p .non (rvs_strs _)⟩
  · obtain ⟨a, kvs, rfl, e, hs, hl, p⟩ := hm
    cases ro
    obtain ⟨y, d, rfl, ry, rd0⟩ := rvs_two rvs
    obtain ⟨u, u2, rfl, ru, ru2⟩ := vals2 rxs
    cases rx
    obtain ⟨H1, I1, rs1, st, q⟩ := Inv.suit I rs e hs
    have tk := st.tup rs
    have hl' : kvs.length < sizeLine := by rw [line_is]; exact hl
    rcases q with ⟨q, t, ek, eh, rd⟩ | ⟨q, t, ek, eh, rd⟩
    · have ei := (ry.mono tk).key ek
      subst ei
      have nf : ∀ v, H1 a = some v → Fix v = false := fun v z => by rw [eh] at z; cases z; rfl
      rcases rd.get (fun _ _ _ => kOf_inj) ek with ⟨e1, e2⟩ | ⟨v', x', e1, e2, rv'⟩
      · rw [e1] at p
        refine d_setd I1 eh ru ru2 (by rw [← rd.length]; exact hl') (fun v hv => by rw [e2] at hv; cases hv) fun _ w' s' I' rw' => ⟨d, _, I', rw', ?_⟩
        exact f _ _ p _ _ (st.trans (Step.wr (by rw [e]; exact fun z => nomatch z))) (rs1.put nf (.inl ⟨_, upd_same, (rd.put (fun _ _ _ => kOf_inj) ek (rd0.mono tk)).mono (tupK_upd nf)⟩)) ((rd0.mono tk).mono (tupK_upd nf))
      · rw [e1] at p
        refine d_setd I1 eh ru ru2 (by rw [← rd.length]; exact hl') (fun v hv w' s' I' rw' => ?_) fun hv => by rw [e2] at hv; cases hv
        rw [e2] at hv
        cases hv
        exact ⟨x', _, I', rw', f _ S p H1 _ st rs1 rv'⟩
    · have nf : ∀ v, H1 a = some v → Fix v = false := fun v z => by rw [eh] at z; cases z; rfl
      obtain ⟨b, ei, eb⟩ := (ry.mono tk).keyT ek
      subst ei
      rcases rd.get (fun _ _ _ => ktOf_inj) ek with ⟨e1, e2⟩ | ⟨v', x', e1, e2, rv'⟩
      · rw [e1] at p
        refine d_setdT (hr.u1) I1 eh ru eb ru2 (by rw [← rd.length]; exact hl') (fun v hv => by rw [e2] at hv; cases hv) fun _ w' s' I' rw' => ⟨d, _, I', rw', ?_⟩
        exact f _ _ p _ _ (st.trans (Step.wr (by rw [e]; exact fun z => nomatch z))) (rs1.put nf (.inr ⟨_, upd_same, (rd.put (fun _ _ _ => ktOf_inj) ek (rd0.mono tk)).mono (tupK_upd nf)⟩)) ((rd0.mono tk).mono (tupK_upd nf))
      · rw [e1] at p
        refine d_setdT (hr.u1) I1 eh ru eb ru2 (by rw [← rd.length]; exact hl') (fun v hv w' s' I' rw' => ?_) fun hv => by rw [e2] at hv; cases hv
        rw [e2] at hv
        cases hv
        exact ⟨x', _, I', rw', f _ S p H1 _ st rs1 rv'⟩
  · obtain ⟨r, h1, p⟩ := hm
    obtain ⟨y, rfl, ry⟩ := rvs1 rvs
    obtain ⟨H1, a, z, I1, rs1, st, rfl, g, _, hz⟩ := Inv.look I rs ro ry h1
    obtain ⟨u, rfl, ru⟩ := vals1 rxs
    cases rx
    refine d_get1 (hr.u1) I1 g ru fun w' s' I' rw' => ⟨z.getD .non, H1, I', rw', f _ S p H1 _ st rs1 ?_⟩
    rcases hz with ⟨h1, h2⟩ | ⟨v', u', h1, h2, h3⟩
    · rw [h1, h2]; exact .non
    · rw [h1, h2]; exact h3
  · obtain ⟨r, h1, p⟩ := hm
    obtain ⟨y, d, rfl, ry, rd⟩ := rvs_two rvs
    obtain ⟨H1, a, z, I1, rs1, st, rfl, g, _, hz⟩ := Inv.look I rs ro ry h1
    obtain ⟨u, u2, rfl, ru, ru2⟩ := vals2 rxs
    cases rx
    refine d_get2 (hr.u1) I1 g ru ru2 fun w' s' I' rw' => ⟨z.getD d, H1, I', rw', f _ S p H1 _ st rs1 ?_⟩
    rcases hz with ⟨h1, h2⟩ | ⟨v', u', h1, h2, h3⟩
    · rw [h1, h2]; exact rd.mono (st.tup rs)
    · rw [h1, h2]; exact h3
  · obtain ⟨z, ys, rfl, h1, h2, p⟩ := hm
    cases ro
    obtain ⟨_, rfl, ri⟩ := rvs1 rvs
    obtain ⟨a, zs, rfl, hs, rr⟩ := ri.its rs h1
    rw [rr.strs] at hs
    exact mt_join pins s σ H _ _ v us Q I rx rxs ⟨z, a, ys, rfl, rfl, hs, h2, f.val rs p (.str _)⟩
  · obtain ⟨x', z, rfl, rfl, h1, h2, p⟩ := hm
    cases ro
    obtain ⟨_, rfl, ri⟩ := rvs1 rvs
    cases ri
    exact mt_split pins s σ H _ _ v us Q I rx rxs ⟨x', z, rfl, rfl, h1, by rw [line_is]; exact h2, f.lst rs p (rvs_strs _)⟩
  · obtain ⟨x', rfl, h1, p⟩ := hm
    cases ro
    cases rvs
    exact mt_upper pins s σ H _ _ v us Q I rx rxs ⟨x', rfl, rfl, h1, f.val rs p (.str _)⟩
  · exact hm.elim
/-- the method's place -/
theorem mt_place (m : Mt) (T : MT) {v : Val} {S : Sto} (h : mtTy m v S = some T) : PlainAttrs (mtS T) ∧ Slot (mtS T) (mtN m) (mtId m T) ∧ typeOf (.builtin (mtId m T)) = pure (.type "method_descriptor") := by
  cases m <;> cases T <;> first
    | exact ⟨PySem.F.plainAttrs_list, PySem.F.slot_list_append, PySem.F.type_list_append⟩
    | exact ⟨PySem.F.plainAttrs_list, PySem.F.slot_list_extend, PySem.F.type_list_extend⟩
    | exact ⟨PySem.F.plainAttrs_list, PySem.F.slot_list_index, PySem.F.type_list_index⟩
    | exact ⟨PySem.F.plainAttrs_tuple, PySem.F.slot_tuple_index, PySem.F.type_tuple_index⟩
    | exact ⟨PySem.F.plainAttrs_list, PySem.F.slot_list_pop, PySem.F.type_list_pop⟩
    | exact ⟨PySem.F.plainAttrs_list, PySem.F.slot_list_clear, PySem.F.type_list_clear⟩
    | exact ⟨PySem.F.plainAttrs_dict, PySem.F.slot_dict_pop, PySem.F.type_dict_pop⟩
    | exact ⟨PySem.F.plainAttrs_dict, PySem.F.slot_dict_get, PySem.F.type_dict_get⟩
    | exact ⟨PySem.F.plainAttrs_dict, PySem.F.slot_dict_setdefault, PySem.F.type_dict_setdefault⟩
    | exact ⟨PySem.F.plainAttrs_list, PySem.F.slot_list_remove, PySem.F.type_list_remove⟩
    | exact ⟨PySem.F.plainAttrs_str, PySem.F.slot_str_join, PySem.F.type_str_join⟩
    | exact ⟨PySem.F.plainAttrs_str, PySem.F.slot_str_split, PySem.F.type_str_split⟩
    | exact ⟨PySem.F.plainAttrs_str, PySem.F.slot_str_upper, PySem.F.type_str_upper⟩
    | (exfalso; unfold mtTy at h; split at h <;> (try split at h) <;> (try split at h) <;> first | contradiction | (cases h; contradiction) | (cases h; done))
theorem mt_ty {H : Hp} {S : Sto} (rs : RS X.K ca H S) {m : Mt} {T : MT} {v : Val} {x : V} (r : RV X.K H v x) (h : mtTy m v S = some T) : tyV X.K (mtS T) x H := by
  have onL : (lts S v).isSome = true → tyV X.K "list" x H := fun q => by
    obtain ⟨vs, e⟩ := Option.isSome_iff_exists.mp q
    obtain ⟨a, xs, rfl, hs, _⟩ := r.lts rs e
    exact .inl ⟨rfl, xs, hs⟩
  have onD : (dct S v).isSome = true → tyV X.K "dict" x H := fun q => by
    obtain ⟨kvs, e⟩ := Option.isSome_iff_exists.mp q
    cases r with
    | ref a =>
      unfold dct at e
      simp only at e
      split at e
      · rename_i e2
        rcases rs a _ e2 with ⟨t, eh, _⟩ | ⟨t, eh, _⟩
        · exact .inr (.inr (.inl ⟨rfl, .inl ⟨t, eh⟩⟩))
        · exact .inr (.inr (.inl ⟨rfl, .inr ⟨t, eh⟩⟩))
      · cases e
    | _ => cases e
  unfold mtTy at h
  split at h
  all_goals first
    | (split at h
       · rename_i q; cases h; exact onL q
       · split at h
         · rename_i q; cases h; exact onD q
         · cases h)
    | (split at h
       · rename_i q; cases h; first | exact onL q | exact onD q
       · cases h)
    | (cases h; cases r; exact rfl)
    | (cases h
       cases r with
       | kt e q =>
         obtain ⟨o, i, n, h1, h2, h3, _⟩ := e
         exact .inr (.inl ⟨rfl, o, h1, h2, h3⟩))
    | cases h
def tyS : Ty → String
  | .int => "int"
  | .bool => "bool"
  | .str => "str"
  | .tuple => "tuple"
  | .list => "list"
def RIsi (K : PySem.W.Frag) (ca : Nat → Addr) (t : Ty) : List V → Hp → VK → Prop := fun xs H Q => ∃ S v x P, xs = [x, .ty (tyS t)] ∧ RS K ca H S ∧ RV K H v x ∧ semIsi v t S (fun b => P (.bl b) S) ∧ FinP K ca S H P Q
theorem kit_non (t : Ty) : kitB "NoneType" (tyS t) = some false := by cases t <;> decide +kernel
theorem kit_dict (t : Ty) : kitB "dict" (tyS t) = some false := by cases t <;> decide +kernel
theorem kit_int (t : Ty) : kitB "int" (tyS t) = some (decide (t = .int)) := by cases t <;> decide +kernel
theorem kit_bool (t : Ty) : kitB "bool" (tyS t) = some (decide (t = .bool) || decide (t = .int)) := by cases t <;> decide +kernel
theorem kit_str (t : Ty) : kitB "str" (tyS t) = some (decide (t = .str)) := by cases t <;> decide +kernel
theorem kit_tuple (t : Ty) : kitB "tuple" (tyS t) = some (decide (t = .tuple)) := by cases t <;> decide +kernel
theorem kit_list (t : Ty) : kitB "list" (tyS t) = some (decide (t = .list)) := by cases t <;> decide +kernel
theorem snd_isi (t : Ty) : CallR X (.builtin "isinstance") (RIsi X.K ca t) := by
  intro pins s σ H xs us Q I r ⟨S, v, x, P, e, rs, rv, hm, f⟩
  subst e
  have go : ∀ (T : String) (b : Bool), TyX X.K H x (.type T) → kitB T (tyS t) = some b → P (.bl b) S → wpAny (model X.prog X.w) X.A (call (.builtin "isinstance") us) (EP X pins σ Q) X.xe s := fun T b ty kb p =>
    call_isi pins s σ H _ us Q I r ⟨x, _, _, _, b, rfl, .ty _, ty, kit_ty kb, f.val rs p (.bl _)⟩
  unfold semIsi at hm
  cases rv with
  | non => exact go _ _ (.base .non) (kit_non t) hm
  | bl b => exact go _ _ (.base (.bl b)) (kit_bool t) hm
  | int b => exact go _ _ (.base (.int b)) (kit_int t) hm
  | str b => exact go _ _ (.base (.str b)) (kit_str t) hm
  | tup e q => exact go _ _ (.base (.tup e)) (kit_tuple t) hm
  | kt e q =>
    obtain ⟨o, is, n, ho, hc, _⟩ := e
    exact go _ _ (.kTuple ho hc) (kit_tuple t) hm
  | scr e q =>
    rcases e with ⟨o, e⟩ | ⟨o, is, n, ho, hc, _⟩
    · exact go _ _ (.base (.frz e)) (kit_list t) hm
    · exact go _ _ (.kList ho hc) (kit_list t) hm
  | ref a =>
    simp only at hm
    split at hm
    · rename_i e
      obtain ⟨ys, h, _⟩ := rs a _ e
      exact go _ _ (.base (.lst h)) (kit_list t) hm
    · rename_i e
      rcases rs a _ e with ⟨ys, h, _⟩ | ⟨ys, h, _⟩
      · exact go _ _ (.base (.dK h)) (kit_dict t) hm
      · exact go _ _ (.base (.dT h)) (kit_dict t) hm
    · exact hm.elim
  | exn0 e => exact hm.elim
  | exn1 n e d q => exact hm.elim
end
end FW

set_option Elab.async false
set_option linter.all false
set_option maxRecDepth 100000
/-! What loops walk. -/
namespace FW
open PySem PySem.Spec PyProof.Rows L2
section
variable {prog : Program} {w : World} {A : Around} {E : Value → Shared → Prop} {s : Shared}
set_option maxHeartbeats 1000000 in
/-- enumerate of what begins so -/
theorem enumNew {v : Value} {o : Obj} {W : Heap → Prop} (B : Begins v o W) :
    Meets (Builtin.«enumerate.__new__» ⟨[.type "enumerate", v], []⟩) (fun _ R st => W st.heap ∧
      R (.ok (.ret (.ref (st.heap.push o).objs.size))) { st with heap := (st.heap.push o).push { cls := .type "enumerate", data := .fields #[.none, .bool false, .ref st.heap.objs.size, rawInt 0, .none, .none] } }) :=
  .of_wp fun prog w A R st hyp => by
    obtain ⟨hh, gg, dd, tt, oo⟩ := st
    obtain ⟨ha, hyp⟩ := hyp
    have hsb := sub_enumerate
    have begin1 : ∀ {A' : Around} {E : Value → Shared → Prop} {Q : Value → Shared → Prop}, Q (.ref hh.objs.size) ⟨hh.push o, gg, dd, tt, oo⟩ → wpAny (model prog w) A' (pyIter v) Q E ⟨hh, gg, dd, tt, oo⟩ :=
      fun z => B.iter prog w _ _ ⟨hh, gg, dd, tt, oo⟩ _ ha z
    wp_walk using begin1
    refine wpAny_stack_any fun frames => wpAny_pure ?_
    split
    · rename_i cc _ _ _ _ _
      cases (cc == Value.type "enumerate")
      · wp_walk using begin1
        exact ⟨_, rfl, hyp⟩
      · wp_walk using begin1
        exact ⟨_, rfl, hyp⟩
    · wp_walk using begin1
      exact ⟨_, rfl, hyp⟩
theorem enumBegins {v : Value} {o : Obj} {W : Heap → Prop} {Q : Value → Shared → Prop} (B : Begins v o W) (h1 : W s.heap)
    (h : ∀ g, IsEnum g (s.heap.objs.size + 1) s.heap.objs.size 0 .none → g.get? s.heap.objs.size = some o → (∀ b u, s.heap.get? b = some u → g.get? b = some u) → Q (.ref (s.heap.objs.size + 1)) { s with heap := g }) :
    wpAny (model prog w) A (call (.type "enumerate") [v]) Q E s := by
  refine callType_new F.called_enumerate (by decide) (F.typeCall_enumerate_1 _) (F.newCall_enumerate_1 _) (fun z => F.args_object_init_2 z _) F.entry_enumerate_new (enumNew B) ⟨h1, ?_⟩
  have sz : (s.heap.push o).objs.size = s.heap.objs.size + 1 := Heap.size_push ..
  show _ ∧ _
  rw [sz]
  have en : IsEnum ((s.heap.push o).push { cls := .type "enumerate", data := .fields #[.none, .bool false, .ref s.heap.objs.size, rawInt 0, .none, .none] }) (s.heap.objs.size + 1) s.heap.objs.size 0 .none := by
    have z := Heap.get?_push_size (s.heap.push o) (o := { cls := .type "enumerate", data := .fields #[.none, .bool false, .ref s.heap.objs.size, rawInt 0, .none, .none] }) rfl
    rw [sz] at z
    exact z
  exact ⟨⟨_, en, rfl⟩, h _ en (Heap.get?_push_of_some _ (Heap.get?_push_size _ B.free)) fun b u z => Heap.get?_push_of_some _ (Heap.get?_push_of_some _ z)⟩
end
/-- enumerate over a tuple -/
def IteT (K : PySem.W.Frag) (a : Addr) : L2.It :=
  ⟨fun i H => ∃ (xs : List V) (x : V), SqT K H a xs ∧ xs[i]? = some x, fun i H v H' => ∃ q x, v = .ref q ∧ H q = none ∧ H' = upd H q (.tup [.int (i : Nat), x]) ∧ ∀ xs, SqT K H a xs → xs[i]? = some x, fun i H => ∃ xs : List V, SqT K H a xs ∧ xs.length = i⟩
theorem turn_enumT {P : Program} {w : World} {K : PySem.W.Frag} {elts : List Expr} {kk : Nat} {tpos : Pos} (a e it : Addr) :
    Turn P w K (.Tuple elts kk tpos) (IteT K a) [e, it] e (fun i g => (∃ old, IsEnum g e it ((i : Nat) : Int) old) ∧ g.IsTupleIter it a i ∧ e ≠ it ∧ a ≠ e ∧ a ≠ it) where
  mem := by simp
  obj := by
    rintro i g ⟨⟨old, h1⟩, ⟨o, h2, _, h3⟩, _⟩ b hb
    rcases List.mem_cons.mp hb with z | z
    · rw [z]; exact ⟨_, h1, fun v q => nomatch q⟩
    · rw [List.mem_singleton.mp z]
      exact ⟨o, h2, fun v q => by rw [h3] at q; cases q⟩
  keep := by
    rintro i g g' ⟨⟨old, h1⟩, h2, h3⟩ k
    exact ⟨⟨old, k e (by simp) _ h1⟩, h2.at fun o q => k it (by simp) o q, h3⟩
  item := by
    intro X hP hw hK hc i pins s σ H E I hf st hg
    subst hP hw hK
    obtain ⟨⟨old, h1⟩, h2, ne, nae, nai⟩ := st
    obtain ⟨xs, x, hq, hx⟩ := hg
    obtain ⟨is, rv, p, hz⟩ := I.tuple hq
    have pt : s.heap.IsTuple a is.toArray := p
    have le : e < s.heap.objs.size := Heap.lt_size h1
    have li : it < s.heap.objs.size := by obtain ⟨_, q, _⟩ := h2; exact Heap.lt_size q
    have hi : i < is.toArray.size := by
      obtain ⟨u, hu, _⟩ := rv.get hx
      have := (List.getElem?_eq_some_iff.mp hu).1
      simpa using this
    have D := Draws.tuple (prog := X.prog) (w := X.w) (A := X.A.in1) (by show X.A.handled = none; exact I.ok.hd hc) it a nai is.toArray
    refine wpAny_pyNext_enum_itemC D h1 ⟨h2, pt⟩ hi ne (fun z => ?_) fun u g tk hu out st' new sz kp => ?_
    · rcases List.mem_cons.mp z with z | z
      · exact ne z
      · exact nae (List.mem_singleton.mp z).symm
    obtain ⟨st', _⟩ := st'
    obtain ⟨u', hu', ru⟩ := rv.get hx
    have eu : u' = u := by
      have hu : is.toArray[i]? = some u := hu
      rw [List.getElem?_toArray, hu'] at hu
      exact Option.some.inj hu
    subst eu
    refine ⟨_, rfl, wpAny_letOwnedTupleGo_enum (s := { s with heap := g, toks := tk + 1 }) out fun g2 he2 sb => ?_⟩
    have t2 : g2.get? s.heap.objs.size = some { cls := .type "tuple", data := .seq #[.int i tk, u'] } := (sb.2 _ (Nat.ne_of_gt le)).trans new
    have nw : ObjOk X.prog X.w (upd H s.heap.objs.size (.tup [.int (i : Nat), x])) g2 s.heap.objs.size (.tup [.int (i : Nat), x]) :=
      ⟨by show 2 ≤ sizeLine; decide, [.int i tk, u'], .cons ⟨_, rfl⟩ (.cons ru .nil), ⟨_, t2, rfl, _, rfl⟩⟩
    have I1 : Inv X pins σ (upd H s.heap.objs.size (.tup [.int (i : Nat), x])) { s with heap := g2, toks := tk + 1 } :=
      I.turnedNew (ch := [e, it]) (fun b ob hb q => by
        have b1 : b ≠ e := fun z => hb (by rw [z]; simp)
        have b2 : b ≠ it := fun z => hb (by rw [z]; simp)
        exact (sb.2 b b1).trans (kp b ob b1 b2 q)) hf (Nat.le_refl _) nw
    refine ⟨.ref s.heap.objs.size, _, I1, rfl, ⟨_, x, rfl, I.hok.fresh (Nat.le_refl _), rfl, fun ys hy => by rw [I.tuple_inj hy hq]; exact hx⟩, ⟨⟨u', ?_⟩, st'.at fun o q => (sb.2 it (Ne.symm ne)).trans q, ne, nae, nai⟩, fun b hb => ?_⟩
    · rw [show ((i + 1 : Nat) : Int) = (i : Int) + 1 by omega]; exact he2
    · have lb : b < s.heap.objs.size := by
        rcases List.mem_cons.mp hb with z | z
        · exact z ▸ le
        · exact (List.mem_singleton.mp z) ▸ li
      rw [upd_ne (Nat.ne_of_lt lb)]
      exact (hf b hb).1
  done := by
    intro X hP hw hK hc i pins s σ H E I hf st hg
    subst hP hw hK
    obtain ⟨⟨old, h1⟩, h2, ne, nae, nai⟩ := st
    obtain ⟨xs, hq, hx⟩ := hg
    obtain ⟨is, rv, p, hz⟩ := I.tuple hq
    have pt : s.heap.IsTuple a is.toArray := p
    obtain ⟨f0, f1, f2, f3, f4, f5⟩ := hf it (by simp)
    have hl := rv.length
    have D := Draws.tuple (prog := X.prog) (w := X.w) (A := X.A.in1) (by show X.A.handled = none; exact I.ok.hd hc) it a nai is.toArray
    have hn : is.toArray.size = i := by rw [List.size_toArray]; omega
    refine wpAny_pyNext_enum_endD D h1 (by rw [hn]; exact ⟨h2, pt⟩) fun g eb => ⟨rfl, I.turned (t' := s.toks) (fun b o hb z => eb b o hb z) f0 f1 f3 f4 f5⟩
  self := by
    rintro A i s Q E ⟨⟨_, h1⟩, _⟩ h
    exact wpAny_pyIter_enum h1 h

/-- zip of three tuples -/
def ItzT3 (K : PySem.W.Frag) (a b c : Addr) (n : Nat) : L2.It :=
  ⟨fun i H => i < n ∧ ∃ (xs ys zs : List V) (x y z : V), SqT K H a xs ∧ SqT K H b ys ∧ SqT K H c zs ∧ n = min (min xs.length ys.length) zs.length ∧ xs[i]? = some x ∧ ys[i]? = some y ∧ zs[i]? = some z,
    fun i H v H' => ∃ q x y z, v = .ref q ∧ H q = none ∧ H' = upd H q (.tup [x, y, z]) ∧ (∀ xs, SqT K H a xs → xs[i]? = some x) ∧ (∀ ys, SqT K H b ys → ys[i]? = some y) ∧ ∀ zs, SqT K H c zs → zs[i]? = some z,
    fun i H => i = n ∧ ∃ (xs ys zs : List V), SqT K H a xs ∧ SqT K H b ys ∧ SqT K H c zs ∧ n = min (min xs.length ys.length) zs.length⟩
theorem turn_zip3 {P : Program} {w : World} {K : PySem.W.Frag} {elts : List Expr} {kk : Nat} {tpos : Pos} {a b c z TI TO i1 i2 i3 : Addr} {n : Nat} (S : ZipSep3 z TI TO i1 i2 i3 [i1, a] [i2, b] [i3, c]) (n1 : a ≠ i1) (n2 : b ≠ i2) (n3 : c ≠ i3) :
    Turn P w K (.Tuple elts kk tpos) (ItzT3 K a b c n) [z, TI, TO, i1, i2, i3] z (fun i g => IsZip g z TI TO .none ∧ IsTupOf3 g TI (.ref i1) (.ref i2) (.ref i3) ∧ (∃ x y u, IsTupOf3 g TO x y u) ∧ g.IsTupleIter i1 a i ∧ g.IsTupleIter i2 b i ∧ g.IsTupleIter i3 c i) where
  mem := by simp
  obj := by
    rintro i g ⟨hz, hT, ⟨x, y, u, hO⟩, ⟨o1, e1, _, d1⟩, ⟨o2, e2, _, d2⟩, ⟨o3, e3, _, d3⟩⟩ m hm
    simp only [List.mem_cons, List.not_mem_nil, or_false] at hm
    rcases hm with rfl | rfl | rfl | rfl | rfl | rfl
    · exact ⟨_, hz, fun v q => nomatch q⟩
    · exact ⟨_, hT, fun v q => nomatch q⟩
    · exact ⟨_, hO, fun v q => nomatch q⟩
    · exact ⟨o1, e1, fun v q => by rw [d1] at q; cases q⟩
    · exact ⟨o2, e2, fun v q => by rw [d2] at q; cases q⟩
    · exact ⟨o3, e3, fun v q => by rw [d3] at q; cases q⟩
  keep := by
    rintro i g g' ⟨hz, hT, ⟨x, y, u, hO⟩, h1, h2, h3⟩ k
    exact ⟨k z (by simp) _ hz, k TI (by simp) _ hT, ⟨x, y, u, k TO (by simp) _ hO⟩, h1.at fun o q => k i1 (by simp) o q, h2.at fun o q => k i2 (by simp) o q, h3.at fun o q => k i3 (by simp) o q⟩
  item := by
    intro X hP hw hK hc i pins s σ H E I hf st hg
    subst hP hw hK
    obtain ⟨hz, hT, hO, h1, h2, h3⟩ := st
    obtain ⟨hin, xs, ys, zs, x, y, u, hqx, hqy, hqz, hn, hx, hy, hu⟩ := hg
    obtain ⟨is1, rv1, p1, _⟩ := I.tuple hqx
    obtain ⟨is2, rv2, p2, _⟩ := I.tuple hqy
    obtain ⟨is3, rv3, p3, _⟩ := I.tuple hqz
    have t1 : s.heap.IsTuple a is1.toArray := p1
    have t2 : s.heap.IsTuple b is2.toArray := p2
    have t3 : s.heap.IsTuple c is3.toArray := p3
    have hh : X.A.in1.handled = none := by show X.A.handled = none; exact I.ok.hd hc
    have W := WalksT.zipD3 (prog := X.prog) (w := X.w) (A := X.A) S (Draws.tuple hh i1 a n1 is1.toArray) (Draws.tuple hh i2 b n2 is2.toArray) (Draws.tuple hh i3 c n3 is3.toArray)
    have l1 := rv1.length
    have l2 := rv2.length
    have l3 := rv3.length
    have hlt : i < min (min is1.toArray.size is2.toArray.size) is3.toArray.size := by simp only [List.size_toArray]; omega
    refine W.item i s _ _ hlt ⟨hz, hT, hO, ⟨h1, t1⟩, ⟨h2, t2⟩, ⟨h3, t3⟩⟩ fun T vals g tk hv hTn isT mid kp => ⟨_, rfl, ?_⟩
    refine W.go elts kk tpos i T { s with heap := g, toks := tk } _ _ mid fun g2 st2 kp2 => ?_
    obtain ⟨v1, v2, v3, e1, e2, e3, rfl⟩ := hv
    obtain ⟨hz', hT', hO', ⟨j1, _⟩, ⟨j2, _⟩, ⟨j3, _⟩⟩ := st2
    have ap := W.apart i T g mid
    have isT2 : IsTup g2 T #[v1, v2, v3] := by
      obtain ⟨o, eo, c1, n0, d1⟩ := isT
      exact ⟨o, kp2 T o ap eo, c1, n0, d1⟩
    have rel : ∀ {is : List Value} {vs : List V} {x : V} {v : Value}, Vals vs is → vs[i]? = some x → is.toArray[i]? = some v → RelV x v := by
      intro is vs x v rv hx hv
      obtain ⟨v', hv', r⟩ := rv.get hx
      rw [List.getElem?_toArray, hv'] at hv
      cases hv
      exact r
    have nw : ObjOk X.prog X.w (upd H T (.tup [x, y, u])) g2 T (.tup [x, y, u]) :=
      ⟨by show 3 ≤ sizeLine; decide, [v1, v2, v3], .cons (rel rv1 hx e1) (.cons (rel rv2 hy e2) (.cons (rel rv3 hu e3) .nil)), isT2⟩
    have I1 : Inv X pins σ (upd H T (.tup [x, y, u])) { s with heap := g2, toks := tk } :=
      I.turnedNew (ch := [z, TI, TO, i1, i2, i3]) (fun m o hm q => by
        have hm' : m ∉ [z, TO, i1, i2, i3] := fun z' => hm (by simp at z' ⊢; rcases z' with h | h | h | h | h <;> simp [h])
        exact kp2 m o hm' (kp m o hm' q)) hf hTn nw
    refine ⟨.ref T, _, I1, rfl, ⟨_, x, y, u, rfl, I.hok.fresh hTn, rfl, fun l hl => by rw [I.tuple_inj hl hqx]; exact hx, fun l hl => by rw [I.tuple_inj hl hqy]; exact hy, fun l hl => by rw [I.tuple_inj hl hqz]; exact hu⟩, ⟨hz', hT', hO', j1, j2, j3⟩, fun m hm => ?_⟩
    have lt : m < s.heap.objs.size := by
      obtain ⟨x0, y0, u0, hO⟩ := hO
      simp only [List.mem_cons, List.not_mem_nil, or_false] at hm
      rcases hm with rfl | rfl | rfl | rfl | rfl | rfl
      · exact Heap.lt_size hz
      · exact Heap.lt_size hT
      · exact Heap.lt_size hO
      · obtain ⟨_, q, _⟩ := h1; exact Heap.lt_size q
      · obtain ⟨_, q, _⟩ := h2; exact Heap.lt_size q
      · obtain ⟨_, q, _⟩ := h3; exact Heap.lt_size q
    rw [upd_ne (Nat.ne_of_lt (Nat.lt_of_lt_of_le lt hTn))]
    exact (hf m hm).1
  done := by
    intro X hP hw hK hc i pins s σ H E I hf st hg
    subst hP hw hK
    obtain ⟨hz, hT, hO, h1, h2, h3⟩ := st
    obtain ⟨rfl, xs, ys, zs, hqx, hqy, hqz, hn⟩ := hg
    obtain ⟨is1, rv1, p1, _⟩ := I.tuple hqx
    obtain ⟨is2, rv2, p2, _⟩ := I.tuple hqy
    obtain ⟨is3, rv3, p3, _⟩ := I.tuple hqz
    have t1 : s.heap.IsTuple a is1.toArray := p1
    have t2 : s.heap.IsTuple b is2.toArray := p2
    have t3 : s.heap.IsTuple c is3.toArray := p3
    have hh : X.A.in1.handled = none := by show X.A.handled = none; exact I.ok.hd hc
    have W := WalksT.zipD3 (prog := X.prog) (w := X.w) (A := X.A) S (Draws.tuple hh i1 a n1 is1.toArray) (Draws.tuple hh i2 b n2 is2.toArray) (Draws.tuple hh i3 c n3 is3.toArray)
    have l1 := rv1.length
    have l2 := rv2.length
    have l3 := rv3.length
    have hlt : i = min (min is1.toArray.size is2.toArray.size) is3.toArray.size := by simp only [List.size_toArray]; omega
    refine W.done s _ _ (hlt ▸ ⟨hz, hT, hO, ⟨h1, t1⟩, ⟨h2, t2⟩, ⟨h3, t3⟩⟩) fun g tk kp => ⟨rfl, I.turnedL (t' := tk) (ch := [z, TI, TO, i1, i2, i3]) (fun m o hm q => ?_) hf⟩
    exact kp m o (fun z' => hm (by simp at z' ⊢; rcases z' with h | h | h | h | h <;> simp [h])) q
  self := by
    rintro A i s Q E ⟨h1, _⟩ h
    exact wpAny_pyIter_zip h1 h

section
variable {X : Cx} {tg e : Expr} {te : TE} {p pos tpos : Pos} {elts : List Expr} {kk : Nat}
/-- a list, a tuple, a text -/
def iSeq (K : PySem.W.Frag) (te : TE) : TI := fun σ H R => te σ H fun x H1 => (∃ a xs, x = .ref a ∧ SqL K H1 a xs ∧ R (Itl K a) H1) ∨ (∃ a xs, x = .ref a ∧ SqT K H1 a xs ∧ R (Itt K a) H1) ∨ ∃ z, x = .str z ∧ R (Its z) H1
theorem pi_seq (he : PE X e te) : PI X tg e (iSeq X.K te) := by
  refine ⟨fun pins s σ H R I hyp => ?_⟩
  refine thn (he.run pins s σ H _ I hyp) fun v s1 ⟨x, H1, I1, r1, q⟩ => ?_
  rcases q with ⟨a, xs, rfl, hq, q⟩ | ⟨a, xs, rfl, hq, q⟩ | ⟨z, rfl, q⟩
  · cases r1
    obtain ⟨is, rv, pl, hz⟩ := I1.list hq
    exact wpAny_pyIter_list pl.isList (pi_one (tk := s1.toks) I1 _ (turn_list a _) ⟨_, Heap.get?_push_size _ rfl, rfl, rfl⟩ q)
  · cases r1
    obtain ⟨is, rv, pl, hz⟩ := I1.tuple hq
    exact wpAny_pyIter_tuple (show s1.heap.IsTuple a is.toArray from pl) (pi_one (tk := s1.toks) I1 _ (turn_tuple a _) ⟨_, Heap.get?_push_size _ rfl, rfl, rfl⟩ q)
  · obtain ⟨t, rfl⟩ := r1
    by_cases ha : z.cps.all (· < 128) = true
    · exact wpAny_pyIter_ascii ha (pi_one (tk := s1.toks) I1 _ (turn_str _ z t "str_ascii_iterator" (.inl rfl)) ⟨_, Heap.get?_push_size _ rfl, rfl, rfl⟩ q)
    · exact wpAny_pyIter_wide (by simpa using ha) (pi_one (tk := s1.toks) I1 _ (turn_str _ z t "str_iterator" (.inr rfl)) ⟨_, Heap.get?_push_size _ rfl, rfl, rfl⟩ q)
/-- enumerate(x), x a list or a tuple -/
def iEnumA (K : PySem.W.Frag) (te : TE) : TI := fun σ H R => te σ H fun x H1 => ∃ a xs, x = .ref a ∧ ((SqL K H1 a xs ∧ R (Ite K a) H1) ∨ (SqT K H1 a xs ∧ R (IteT K a) H1))
theorem pi_enumA (hg : Gl X "enumerate") (hm : X.mg "enumerate" = none) (he : PE X e te) (hs : starEach [e] X.env = (false, eval e X.env) :: starEach [] X.env) :
    PI X (.Tuple elts kk tpos) (.Call (.Name "enumerate" p) [e] [] pos) (iEnumA X.K te) := by
  refine ⟨fun pins s σ H R I hyp => ?_⟩
  refine Call_ (ld_blt I hg hm boot_enumerate (PyProof.Rows.callWith_type1 (args_cons (thn (he.run pins s σ H _ I hyp) fun u s1 ⟨x, H1, I1, r1, q⟩ => args_nil ?_) hs) hs rfl))
  obtain ⟨a, xs, rfl, q⟩ := q
  obtain rfl : u = Value.ref a := r1
  have mine : ∀ b : Addr, b ∈ [s1.heap.objs.size + 1, s1.heap.objs.size] → FpOk X pins H1 b := fun b hb => by
    have le : s1.heap.objs.size ≤ b := by
      rcases List.mem_cons.mp hb with z | z
      · rw [z]; exact Nat.le_succ _
      · rw [List.mem_singleton.mp z]; exact Nat.le_refl _
    exact I1.fpOk le (I1.hok.fresh le)
  rcases q with ⟨hq, q⟩ | ⟨hq, q⟩
  · obtain ⟨is, rv, pl, hz⟩ := I1.list hq
    refine enumBegins (begins_list a is.toArray) pl.isList fun g en it kp => wpAny_pyIter_enum en ?_
    exact ⟨s1.heap.objs.size + 1, [s1.heap.objs.size + 1, s1.heap.objs.size], _, _, H1, rfl, I1.kept (t' := s1.toks) kp, turn_enum a (s1.heap.objs.size + 1) s1.heap.objs.size, ⟨⟨.none, en⟩, ⟨_, it, rfl, rfl⟩, Nat.succ_ne_self _⟩, mine, q⟩
  · obtain ⟨is, rv, pl, hz⟩ := I1.tuple hq
    have pt : s1.heap.IsTuple a is.toArray := pl
    have la : a < s1.heap.objs.size := by obtain ⟨o, e, _⟩ := pt; exact Heap.lt_size e
    refine enumBegins (begins_tuple a is.toArray) pt fun g en it kp => wpAny_pyIter_enum en ?_
    exact ⟨s1.heap.objs.size + 1, [s1.heap.objs.size + 1, s1.heap.objs.size], _, _, H1, rfl, I1.kept (t' := s1.toks) kp, turn_enumT a (s1.heap.objs.size + 1) s1.heap.objs.size, ⟨⟨.none, en⟩, ⟨_, it, rfl, rfl⟩, Nat.succ_ne_self _, Nat.ne_of_lt (Nat.lt_succ_of_lt la), Nat.ne_of_lt la⟩, mine, q⟩
end

/-! ### a walk by the store -/
/-- the iterator J does as w says -/
def Jok (K : PySem.W.Frag) (ca : Nat → Addr) (H0 : Hp) (w : Wk) (J : L2.It) : Prop := ∀ i H S, TupK K H0 H → RS K ca H S → w.ok S →
  (i = w.xs.length → J.stop i H) ∧ (i < w.xs.length → J.go i H ∧ ∀ x H', J.yld i H x H' → ∃ v, w.xs[i]? = some v ∧ RV K H' v x ∧ RS K ca H' S ∧ Step S H S H')
section
variable {K : PySem.W.Frag} {ca : Nat → Addr} {H0 : Hp} {S0 : Sto}
theorem TupK.refl {H : Hp} : TupK K H H := ⟨fun _ _ h => h, fun _ _ h => h, fun _ _ h => h, fun _ _ h => h⟩
theorem TupK.trans {H H1 H2 : Hp} (a : TupK K H H1) (b : TupK K H1 H2) : TupK K H H2 := ⟨fun x y h => b.t x y (a.t x y h), fun x y h => b.f x y (a.f x y h), fun x y h => b.e x y (a.e x y h), fun x y h => b.x x y (a.x x y h)⟩
theorem TupK.sqt {H : Hp} (k : TupK K H0 H) {a : Addr} {xs : List V} (h : SqT K H0 a xs) (h' : H0 a = some (.tup xs) ∨ SqK K a xs) : SqT K H a xs := h'.elim (fun z => .of (k.t _ _ z)) SqK.sqt
theorem sqL_inj {H : Hp} {a : Addr} {xs ys : List V} (rs : H a = some (.lst xs)) (h : SqL K H a ys) (g : SqL K H a xs → SqL K H a ys → xs = ys) : ys = xs := (g (.of rs) h).symm
/-- a value that is walked, by what holds of it -/
inductive Src (K : PySem.W.Frag) (H0 : Hp) (vs : List Val) : Val → V → Option (Addr × List Val) → Prop
  | tup {a : Addr} {xs : List V} : H0 a = some (.tup xs) → RVs K H0 vs xs → Src K H0 vs (.tup vs) (.ref a) none
  | kt {a : Addr} {xs : List V} : SqK K a xs → RVs K H0 vs xs → Src K H0 vs (.kt vs) (.ref a) none
  | scr {a : Addr} {xs : List V} : SqF K H0 a xs → RVs K H0 vs xs → Src K H0 vs (.scr vs) (.ref a) none
  | ref (a : Addr) : Src K H0 vs (.ref a) (.ref a) (some (a, vs))
theorem src_of (rs : RS K ca H0 S0) {v : Val} {x : V} (r : RV K H0 v x) {f : List Val → List Val} {w : Wk} (h : wkOf S0 v f = some w) : ∃ vs o, w = ⟨f vs, o, none, none⟩ ∧ Src K H0 vs v x o ∧ (⟨f vs, o, none, none⟩ : Wk).ok S0 := by
  cases r with
  | tup e q => cases h; exact ⟨_, _, rfl, .tup e q, trivial⟩
  | kt e q => cases h; exact ⟨_, _, rfl, .kt e q, trivial⟩
  | scr e q => cases h; exact ⟨_, _, rfl, .scr e q, trivial⟩
  | ref a =>
    unfold wkOf at h
    simp only at h
    split at h
    · rename_i e
      cases h
      exact ⟨_, _, rfl, .ref a, e⟩
    · cases h
  | _ => cases h

def okA (o : Option (Addr × List Val)) (S : Sto) : Prop := match o with
  | none => True
  | some (a, us) => S a = some (.lst us)
theorem ok_one {xs : List Val} {o : Option (Addr × List Val)} {S : Sto} (h : (⟨xs, o, none, none⟩ : Wk).ok S) : okA o S := by cases o <;> exact h
theorem ok_two {xs : List Val} {o u : Option (Addr × List Val)} {S : Sto} (h : (⟨xs, o, u, none⟩ : Wk).ok S) : okA o S ∧ okA u S := by
  cases o <;> cases u
  · exact ⟨trivial, trivial⟩
  · exact ⟨trivial, h⟩
  · exact ⟨h, trivial⟩
  · exact h
def AtT (K : PySem.W.Frag) (ca : Nat → Addr) (H0 : Hp) (vs : List Val) (o : Option (Addr × List Val)) (a : Addr) : Prop := ∀ H S, TupK K H0 H → RS K ca H S → okA o S → ∃ xs, SqT K H a xs ∧ RVs K H vs xs
def AtL (K : PySem.W.Frag) (ca : Nat → Addr) (H0 : Hp) (vs : List Val) (o : Option (Addr × List Val)) (a : Addr) : Prop := ∀ H S, TupK K H0 H → RS K ca H S → okA o S → ∃ xs, SqL K H a xs ∧ RVs K H vs xs
/-- .. is a list or a tuple wherever the walk stands -/
theorem Src.kind {vs : List Val} {v : Val} {x : V} {o : Option (Addr × List Val)} (s : Src K H0 vs v x o) : ∃ a, x = .ref a ∧ (AtT K ca H0 vs o a ∨ AtL K ca H0 vs o a) := by
  cases s with
  | tup e q => exact ⟨_, rfl, .inl fun H S k _ _ => ⟨_, .of (k.t _ _ e), q.mono k⟩⟩
  | kt e q => exact ⟨_, rfl, .inl fun H S k _ _ => ⟨_, e.sqt, q.mono k⟩⟩
  | scr e q => exact ⟨_, rfl, .inr fun H S k _ _ => ⟨_, (k.f _ _ e).sql, q.mono k⟩⟩
  | ref a => exact ⟨a, rfl, .inr fun H S k rs ok => let ⟨xs, h, q⟩ := rs a _ ok; ⟨xs, .of h, q⟩⟩
theorem some_lt {α : Type} {xs : List α} {i : Nat} (h : i < xs.length) : ∃ x, xs[i]? = some x := ⟨xs[i], List.getElem?_eq_getElem h⟩
variable {vs : List Val} {o : Option (Addr × List Val)} {a : Addr}

theorem jok_l (h : AtL K ca H0 vs o a) : Jok K ca H0 ⟨vs, o, none, none⟩ (Itl K a) := by
  intro i H S k rs ok
  obtain ⟨xs, hq, rr⟩ := h H S k rs (ok_one ok)
  have hl := rr.len
  refine ⟨fun hi => ⟨xs, hq, by simp at hi; omega⟩, fun hi => ⟨?_, ?_⟩⟩
  · obtain ⟨x, hx⟩ := some_lt (xs := xs) (i := i) (by simp at hi; omega)
    exact ⟨xs, x, hq, hx⟩
  · rintro x H' ⟨rfl, hy⟩
    obtain ⟨v, h1, h2⟩ := rr.getX (hy xs hq)
    exact ⟨v, h1, h2, rs, .refl⟩
theorem jok_t (h : AtT K ca H0 vs o a) : Jok K ca H0 ⟨vs, o, none, none⟩ (Itt K a) := by
  intro i H S k rs ok
  obtain ⟨xs, hq, rr⟩ := h H S k rs (ok_one ok)
  have hl := rr.len
  refine ⟨fun hi => ⟨xs, hq, by simp at hi; omega⟩, fun hi => ⟨?_, ?_⟩⟩
  · obtain ⟨x, hx⟩ := some_lt (xs := xs) (i := i) (by simp at hi; omega)
    exact ⟨xs, x, hq, hx⟩
  · rintro x H' ⟨rfl, hy⟩
    obtain ⟨v, h1, h2⟩ := rr.getX (hy xs hq)
    exact ⟨v, h1, h2, rs, .refl⟩
theorem rev_at {α : Type} {xs : List α} {i n : Nat} (hn : xs.length = n) (hi : i < n) : xs.reverse[i]? = xs[n - 1 - i]? := by rw [List.getElem?_reverse (by omega), hn]
theorem jok_rl (h : AtL K ca H0 vs o a) {n : Nat} (hn : n = vs.length) : Jok K ca H0 ⟨vs.reverse, o, none, none⟩ (Itv K a n) := by
  intro i H S k rs ok
  obtain ⟨xs, hq, rr⟩ := h H S k rs (ok_one ok)
  have hl := rr.len
  refine ⟨fun hi => by simp at hi; show n ≤ i; omega, fun hi => ?_⟩
  simp at hi
  refine ⟨?_, ?_⟩
  · obtain ⟨x, hx⟩ := some_lt (xs := xs) (i := n - 1 - i) (by omega)
    exact ⟨by omega, xs, x, hq, hx⟩
  · rintro x H' ⟨rfl, hy⟩
    obtain ⟨v, h1, h2⟩ := rr.getX (hy xs hq)
    exact ⟨v, by show vs.reverse[i]? = _; rw [rev_at hn.symm (by omega)]; exact h1, h2, rs, .refl⟩
theorem jok_rt (h : AtT K ca H0 vs o a) {n : Nat} (hn : n = vs.length) : Jok K ca H0 ⟨vs.reverse, o, none, none⟩ (RT.ItvT K a n) := by
  intro i H S k rs ok
  obtain ⟨xs, hq, rr⟩ := h H S k rs (ok_one ok)
  have hl := rr.len
  refine ⟨fun hi => by simp at hi; show n ≤ i; omega, fun hi => ?_⟩
  simp at hi
  refine ⟨?_, ?_⟩
  · obtain ⟨x, hx⟩ := some_lt (xs := xs) (i := n - 1 - i) (by omega)
    exact ⟨by omega, xs, x, hq, hx⟩
  · rintro x H' ⟨rfl, hy⟩
    obtain ⟨v, h1, h2⟩ := rr.getX (hy xs hq)
    exact ⟨v, by show vs.reverse[i]? = _; rw [rev_at hn.symm (by omega)]; exact h1, h2, rs, .refl⟩
theorem enumL_len : ∀ (vs : List Val) (k : Nat), (enumL vs k).length = vs.length
  | [], k => by rw [enumL]
  | v :: vs, k => by rw [enumL, List.length_cons, enumL_len vs, List.length_cons]
theorem enumL_at : ∀ (vs : List Val) (k i : Nat) (v : Val), vs[i]? = some v → (enumL vs k)[i]? = some (.tup [.int ((k + i : Nat) : Int), v])
  | [], k, i, v, h => by simp at h
  | w :: vs, k, 0, v, h => by
    have e : w = v := by simpa using h
    subst e
    rw [enumL]; rfl
  | w :: vs, k, i + 1, v, h => by
    rw [enumL]
    have := enumL_at vs (k + 1) i v (by simpa using h)
    rw [List.getElem?_cons_succ, this, show k + 1 + i = k + (i + 1) by omega]
theorem jok_el (h : AtL K ca H0 vs o a) : Jok K ca H0 ⟨enumL vs 0, o, none, none⟩ (Ite K a) := by
  intro i H S k rs ok
  obtain ⟨xs, hq, rr⟩ := h H S k rs (ok_one ok)
  have hl := rr.len
  have he := enumL_len vs 0
  refine ⟨fun hi => ⟨xs, hq, by simp at hi; omega⟩, fun hi => ⟨?_, ?_⟩⟩
  · obtain ⟨x, hx⟩ := some_lt (xs := xs) (i := i) (by simp at hi; omega)
    exact ⟨xs, x, hq, hx⟩
  · rintro x H' ⟨q, y, rfl, hn, rfl, hy⟩
    obtain ⟨v, h1, h2⟩ := rr.getX (hy xs hq)
    exact ⟨.tup [.int (i : Nat), v], by show (enumL vs 0)[i]? = _; rw [enumL_at vs 0 i v h1, Nat.zero_add], .tup upd_same (.cons (.int _) (.cons (h2.mono (tupK_upd (noneFix hn))) .nil)), rs.keep hn, .new0 hn⟩
theorem jok_et (h : AtT K ca H0 vs o a) : Jok K ca H0 ⟨enumL vs 0, o, none, none⟩ (IteT K a) := by
  intro i H S k rs ok
  obtain ⟨xs, hq, rr⟩ := h H S k rs (ok_one ok)
  have hl := rr.len
  have he := enumL_len vs 0
  refine ⟨fun hi => ⟨xs, hq, by simp at hi; omega⟩, fun hi => ⟨?_, ?_⟩⟩
  · obtain ⟨x, hx⟩ := some_lt (xs := xs) (i := i) (by simp at hi; omega)
    exact ⟨xs, x, hq, hx⟩
  · rintro x H' ⟨q, y, rfl, hn, rfl, hy⟩
    obtain ⟨v, h1, h2⟩ := rr.getX (hy xs hq)
    exact ⟨.tup [.int (i : Nat), v], by show (enumL vs 0)[i]? = _; rw [enumL_at vs 0 i v h1, Nat.zero_add], .tup upd_same (.cons (.int _) (.cons (h2.mono (tupK_upd (noneFix hn))) .nil)), rs.keep hn, .new0 hn⟩
theorem jok_str (z : Str) : Jok K ca H0 ⟨signs z, none, none, none⟩ (Its z) := by
  intro i H S k rs ok
  have hl : (signs z).length = z.cps.size := by unfold signs; rw [List.length_map, Array.length_toList]
  refine ⟨fun hi => by show z.cps.size ≤ i; simp at hi; omega, fun hi => ⟨by show i < z.cps.size; simp at hi; omega, ?_⟩⟩
  rintro x H' ⟨rfl, c, hc, rfl⟩
  exact ⟨.str ⟨#[c]⟩, by show (signs z)[i]? = _; unfold signs; rw [List.getElem?_map, Array.getElem?_toList, hc]; rfl, .str _, rs, .refl⟩
theorem rngL_at {lo : Int} {n i : Nat} (h : i < n) : (rngL lo n)[i]? = some (.int (lo + i)) := by
  unfold rngL; rw [List.getElem?_map, List.getElem?_range h]; rfl
theorem rngL_len {lo : Int} {n : Nat} : (rngL lo n).length = n := by unfold rngL; rw [List.length_map, List.length_range]
theorem jok_rng (lo : Int) (n : Nat) : Jok K ca H0 ⟨rngL lo n, none, none, none⟩ (Itr lo n) := by
  intro i H S k rs ok
  have hl := @rngL_len lo n
  refine ⟨fun hi => by show n ≤ i; simp at hi; omega, fun hi => ⟨by show i < n; simp at hi; omega, ?_⟩⟩
  rintro x H' ⟨rfl, rfl⟩
  exact ⟨.int (lo + i), rngL_at (by simp at hi; omega), .int _, rs, .refl⟩
theorem jok_rngr (n : Nat) : Jok K ca H0 ⟨(rngL 0 n).reverse, none, none, none⟩ (Itc (0 + ((n : Nat) : Int) - 1) (-1) n) := by
  intro i H S k rs ok
  have hl := @rngL_len 0 n
  refine ⟨fun hi => by show n ≤ i; simp at hi; omega, fun hi => ⟨by show i < n; simp at hi; omega, ?_⟩⟩
  rintro x H' ⟨rfl, rfl⟩
  have hi : i < n := by simp at hi; omega
  refine ⟨.int (0 + ((n - 1 - i : Nat) : Int)), by show (rngL 0 n).reverse[i]? = _; rw [rev_at hl hi, rngL_at (by omega)], ?_, rs, .refl⟩
  rw [show (0 + (n : Int) - 1 + (i : Nat) * (-1) : Int) = 0 + ((n - 1 - i : Nat) : Int) by omega]
  exact .int _

theorem RD.at {κ : Type} {f : Val → Option κ} {H : Hp} : ∀ {kvs : List (Val × Val)} {t : List (κ × V)} {i : Nat} {k : κ} {v : V}, RD K H f kvs t → t[i]? = some (k, v) → ∃ u, (kvs.map (·.1))[i]? = some u ∧ f u = some k
  | _, _, _, _, _, .nil, h => by simp at h
  | _, _, 0, _, _, .cons (k := k') e _ _, h => by
    simp at h
    obtain ⟨h1, _⟩ := h
    subst h1
    exact ⟨k', rfl, e⟩
  | _, _, i + 1, k, v, .cons _ _ r, h => by
    obtain ⟨u, h1, h2⟩ := RD.at (i := i) (k := k) (v := v) r (by simpa using h)
    exact ⟨u, by simpa using h1, h2⟩
theorem rv_key {H : Hp} {u : Val} {k : Key} (h : kOf u = some k) : RV K H u (kV k) := by
  cases u <;> simp [kOf] at h <;> subst h <;> constructor
theorem jok_k (d : Addr) (kvs : List (Val × Val)) (o : Obj) (t : List (Key × V)) : Jok K ca H0 ⟨kvs.map (·.1), none, none, some (d, .dlk kvs o t)⟩ (Itk d o t) := by
  intro i H S k rs ok
  obtain ⟨eh, rd⟩ := rs d _ ok
  have hl := rd.length
  refine ⟨fun hi => ⟨eh, by simp at hi; omega⟩, fun hi => ⟨⟨eh, by simp at hi; omega⟩, ?_⟩⟩
  rintro x H' ⟨rfl, k, v, hk, rfl⟩
  obtain ⟨u, h1, h2⟩ := rd.at hk
  exact ⟨u, h1, rv_key h2, rs, .refl⟩
theorem src_its {S0 : Sto} (rs : RS K ca H0 S0) {v : Val} {x : V} (r : RV K H0 v x) (h : its S0 v = some vs) :
    ∃ a, x = .ref a ∧ okA (trk S0 v) S0 ∧ ((isT v = true ∧ trk S0 v = none ∧ AtT K ca H0 vs none a) ∨ (isT v = false ∧ AtL K ca H0 vs (trk S0 v) a)) := by
  cases r with
  | tup e q => cases h; exact ⟨_, rfl, trivial, .inl ⟨rfl, rfl, fun H S k _ _ => ⟨_, .of (k.t _ _ e), q.mono k⟩⟩⟩
  | kt e q => cases h; exact ⟨_, rfl, trivial, .inl ⟨rfl, rfl, fun H S k _ _ => ⟨_, e.sqt, q.mono k⟩⟩⟩
  | scr e q => cases h; exact ⟨_, rfl, trivial, .inr ⟨rfl, fun H S k _ _ => ⟨_, (k.f _ _ e).sql, q.mono k⟩⟩⟩
  | ref a =>
    unfold FW.its at h
    simp only at h
    split at h
    · rename_i ws e
      cases h
      have et : trk S0 (.ref a) = some (a, vs) := by unfold trk; simp only [e]
      rw [et]
      exact ⟨a, rfl, e, .inr ⟨rfl, fun H S k rs ok => let ⟨xs, h, q⟩ := rs a _ ok; ⟨xs, .of h, q⟩⟩⟩
    · cases h
  | _ => cases h
theorem zipL_at {xs ys : List Val} {i : Nat} {x y : Val} (hx : xs[i]? = some x) (hy : ys[i]? = some y) : (zipL xs ys)[i]? = some (.tup [x, y]) := by
  unfold zipL; rw [List.getElem?_zipWith, hx, hy]
theorem zipL_len (xs ys : List Val) : (zipL xs ys).length = min xs.length ys.length := by unfold zipL; rw [List.length_zipWith]
theorem jok_z2l {ws : List Val} {u : Option (Addr × List Val)} {b : Addr} (h : AtL K ca H0 vs o a) (g : AtL K ca H0 ws u b) : Jok K ca H0 ⟨zipL vs ws, o, u, none⟩ (Itz K a b) := by
  intro i H S k rs ok
  obtain ⟨ok1, ok2⟩ := ok_two ok
  obtain ⟨xs, hq, rr⟩ := h H S k rs ok1
  obtain ⟨ys, hq2, rr2⟩ := g H S k rs ok2
  have hl := rr.len
  have hl2 := rr2.len
  have hz := zipL_len vs ws
  refine ⟨fun hi => ⟨xs, ys, hq, hq2, by simp at hi; omega⟩, fun hi => ⟨?_, ?_⟩⟩
  · simp at hi
    obtain ⟨x, hx⟩ := some_lt (xs := xs) (i := i) (by omega)
    obtain ⟨y, hy⟩ := some_lt (xs := ys) (i := i) (by omega)
    exact ⟨xs, ys, x, y, hq, hq2, hx, hy⟩
  · rintro v H' ⟨q, x, y, rfl, hn, rfl, h1, h2⟩
    obtain ⟨v1, e1, r1⟩ := rr.getX (h1 xs hq)
    obtain ⟨v2, e2, r2⟩ := rr2.getX (h2 ys hq2)
    have tk := tupK_upd (K := K) (u := .tup [x, y]) (noneFix hn)
    exact ⟨_, zipL_at e1 e2, .tup upd_same (.cons (r1.mono tk) (.cons (r2.mono tk) .nil)), rs.keep hn, .new0 hn⟩
theorem jok_z2t {ws : List Val} {b : Addr} (h : AtT K ca H0 vs none a) (g : AtT K ca H0 ws none b) : Jok K ca H0 ⟨zipL vs ws, none, none, none⟩ (RZ.ItzT K a b) := by
  intro i H S k rs ok
  obtain ⟨xs, hq, rr⟩ := h H S k rs trivial
  obtain ⟨ys, hq2, rr2⟩ := g H S k rs trivial
  have hl := rr.len
  have hl2 := rr2.len
  have hz := zipL_len vs ws
  refine ⟨fun hi => ⟨xs, ys, hq, hq2, by simp at hi; omega⟩, fun hi => ⟨?_, ?_⟩⟩
  · simp at hi
    obtain ⟨x, hx⟩ := some_lt (xs := xs) (i := i) (by omega)
    obtain ⟨y, hy⟩ := some_lt (xs := ys) (i := i) (by omega)
    exact ⟨xs, ys, x, y, hq, hq2, hx, hy⟩
  · rintro v H' ⟨q, x, y, rfl, hn, rfl, h1, h2⟩
    obtain ⟨v1, e1, r1⟩ := rr.getX (h1 xs hq)
    obtain ⟨v2, e2, r2⟩ := rr2.getX (h2 ys hq2)
    have tk := tupK_upd (K := K) (u := .tup [x, y]) (noneFix hn)
    exact ⟨_, zipL_at e1 e2, .tup upd_same (.cons (r1.mono tk) (.cons (r2.mono tk) .nil)), rs.keep hn, .new0 hn⟩
theorem zip3L_len : ∀ xs ys zs : List Val, (zip3L xs ys zs).length = min (min xs.length ys.length) zs.length
  | [], _, _ => by simp [zip3L]
  | _ :: _, [], _ => by simp [zip3L]
  | _ :: _, _ :: _, [] => by simp [zip3L]
  | x :: xs, y :: ys, z :: zs => by rw [zip3L, List.length_cons, zip3L_len xs ys zs]; simp only [List.length_cons]; omega
theorem zip3L_at : ∀ {xs ys zs : List Val} {i : Nat} {x y z : Val}, xs[i]? = some x → ys[i]? = some y → zs[i]? = some z → (zip3L xs ys zs)[i]? = some (.tup [x, y, z])
  | [], _, _, _, _, _, _, h, _, _ => by simp at h
  | _ :: _, [], _, _, _, _, _, _, h, _ => by simp at h
  | _ :: _, _ :: _, [], _, _, _, _, _, _, h => by simp at h
  | x :: xs, y :: ys, z :: zs, 0, _, _, _, h1, h2, h3 => by
    simp at h1 h2 h3
    subst h1 h2 h3
    rfl
  | x :: xs, y :: ys, z :: zs, i + 1, _, _, _, h1, h2, h3 => by
    rw [zip3L, List.getElem?_cons_succ]
    exact zip3L_at (by simpa using h1) (by simpa using h2) (by simpa using h3)
theorem jok_z3 {ws us : List Val} {b c : Addr} {n : Nat} (h : AtT K ca H0 vs none a) (g : AtT K ca H0 ws none b) (f : AtT K ca H0 us none c) (hn : n = min (min vs.length ws.length) us.length) : Jok K ca H0 ⟨zip3L vs ws us, none, none, none⟩ (ItzT3 K a b c n) := by
  intro i H S k rs ok
  obtain ⟨xs, hq, rr⟩ := h H S k rs trivial
  obtain ⟨ys, hq2, rr2⟩ := g H S k rs trivial
  obtain ⟨zs, hq3, rr3⟩ := f H S k rs trivial
  have hl := rr.len
  have hl2 := rr2.len
  have hl3 := rr3.len
  have hz := zip3L_len vs ws us
  refine ⟨fun hi => ⟨by simp at hi; omega, xs, ys, zs, hq, hq2, hq3, by omega⟩, fun hi => ⟨?_, ?_⟩⟩
  · simp at hi
    obtain ⟨x, hx⟩ := some_lt (xs := xs) (i := i) (by omega)
    obtain ⟨y, hy⟩ := some_lt (xs := ys) (i := i) (by omega)
    obtain ⟨z, hz'⟩ := some_lt (xs := zs) (i := i) (by omega)
    exact ⟨by omega, xs, ys, zs, x, y, z, hq, hq2, hq3, by omega, hx, hy, hz'⟩
  · rintro v H' ⟨q, x, y, z, rfl, hn, rfl, h1, h2, h3⟩
    obtain ⟨v1, e1, r1⟩ := rr.getX (h1 xs hq)
    obtain ⟨v2, e2, r2⟩ := rr2.getX (h2 ys hq2)
    obtain ⟨v3, e3, r3⟩ := rr3.getX (h3 zs hq3)
    have tk := tupK_upd (K := K) (u := .tup [x, y, z]) (noneFix hn)
    exact ⟨_, zip3L_at e1 e2 e3, .tup upd_same (.cons (r1.mono tk) (.cons (r2.mono tk) (.cons (r3.mono tk) .nil))), rs.keep hn, .new0 hn⟩
end
def iZip3 (K : PySem.W.Frag) (ta : TA) : TI := fun σ H R => ta σ H fun vs H1 => ∃ a b c xs ys zs, vs = [.ref a, .ref b, .ref c] ∧ SqT K H1 a xs ∧ SqT K H1 b ys ∧ SqT K H1 c zs ∧ R (ItzT3 K a b c (min (min xs.length ys.length) zs.length)) H1
theorem pi_zip3 {X : Cx} {e e2 e3 : Expr} {ta : TA} {p pos tpos : Pos} {elts : List Expr} {kk : Nat} (hg : Gl X "zip") (hm : X.mg "zip" = none) (ha : PA X [e, e2, e3] ta)
    (hs : starEach [e, e2, e3] X.env = (false, eval e X.env) :: starEach [e2, e3] X.env) (hpl : (backTo pos (starEach [e2, e3] X.env)).any (·.1) = false) :
    PI X (.Tuple elts kk tpos) (.Call (.Name "zip" p) [e, e2, e3] [] pos) (iZip3 X.K ta) := by
  refine ⟨fun pins s σ H R I hyp => ?_⟩
  refine Call_ (ld_blt I hg hm PyProof.Rows.boot_zip (PyProof.Rows.callWith_type1 (thn (ha.run pos pins s σ H _ I hyp) fun us s1 ⟨vs, H1, I1, r1, q⟩ => ?_) hs hpl))
  obtain ⟨a, b, c, xs, ys, zs, rfl, hx, hy, hz, q⟩ := q
  cases r1 with
  | cons ra r1 =>
    cases r1 with
    | cons rb r1 =>
      cases r1 with
      | cons rc r1 =>
        cases r1
        cases ra
        cases rb
        cases rc
        obtain ⟨is1, rv1, p1, _⟩ := I1.tuple hx
        obtain ⟨is2, rv2, p2, _⟩ := I1.tuple hy
        obtain ⟨is3, rv3, p3, _⟩ := I1.tuple hz
        have t1 : s1.heap.IsTuple a is1.toArray := p1
        have t2 : s1.heap.IsTuple b is2.toArray := p2
        have t3 : s1.heap.IsTuple c is3.toArray := p3
        have la : a < s1.heap.objs.size := by obtain ⟨o, e, _⟩ := t1; exact Heap.lt_size e
        have lb : b < s1.heap.objs.size := by obtain ⟨o, e, _⟩ := t2; exact Heap.lt_size e
        have lc : c < s1.heap.objs.size := by obtain ⟨o, e, _⟩ := t3; exact Heap.lt_size e
        refine zip_begins3 (begins_tuple a is1.toArray) (begins_tuple b is2.toArray) (begins_tuple c is3.toArray) t1 t2 t3 fun g hzp hT hO g1 g2 g3 _ kp => wpAny_pyIter_zip hzp ?_
        have sep := zip_sep3 (N := s1.heap.objs.size) (fp1 := [a]) (fp2 := [b]) (fp3 := [c]) (by simpa using la) (by simpa using lb) (by simpa using lc)
        refine ⟨s1.heap.objs.size + 5, [s1.heap.objs.size + 5, s1.heap.objs.size + 3, s1.heap.objs.size + 4, s1.heap.objs.size, s1.heap.objs.size + 1, s1.heap.objs.size + 2], _, _, H1, rfl, I1.kept (t' := s1.toks) kp,
          turn_zip3 sep (Nat.ne_of_lt la) (Nat.ne_of_lt (Nat.lt_of_lt_of_le lb (Nat.le_add_right _ _))) (Nat.ne_of_lt (Nat.lt_of_lt_of_le lc (Nat.le_add_right _ _))), ⟨hzp, hT, ⟨_, _, _, hO⟩, ⟨_, g1, rfl, rfl⟩, ⟨_, g2, rfl, rfl⟩, ⟨_, g3, rfl, rfl⟩⟩, fun m hm => ?_, q⟩
        have le : s1.heap.objs.size ≤ m := by
          simp only [List.mem_cons, List.not_mem_nil, or_false] at hm
          rcases hm with e | e | e | e | e | e
          · exact Nat.le_trans (Nat.le_add_right _ _) (Nat.le_of_eq e.symm)
          · exact Nat.le_trans (Nat.le_add_right _ _) (Nat.le_of_eq e.symm)
          · exact Nat.le_trans (Nat.le_add_right _ _) (Nat.le_of_eq e.symm)
          · exact Nat.le_of_eq e.symm
          · exact Nat.le_trans (Nat.le_add_right _ _) (Nat.le_of_eq e.symm)
          · exact Nat.le_trans (Nat.le_add_right _ _) (Nat.le_of_eq e.symm)
        exact I1.fpOk le (I1.hok.fresh le)
end FW

set_option Elab.async false
set_option linter.all false
set_option maxRecDepth 100000
/-! x[::-1] of a list or a tuple. -/
namespace FW
open PySem PySem.Spec PyProof.Rows L2
section
variable {prog : Program} {w : World} {A : Around} {E : Value → Shared → Prop} {s : Shared}
theorem backParts {sl : Addr} {vl vu vs : Value} {n : Nat} {Q : Int × Int × Nat → Shared → Prop} (hs : s.heap.IsSliceOf sl vl vu vs) (pl : IsPart vl none) (pu : IsPart vu none) (ps : IsPart vs (some (-1)))
    (h : Q ((n : Int) - 1, -1, n) s) : wpAny (model prog w) A (Builtin.Slice.sliceApplied (.ref sl) (pure (n : Int))) Q E s := by
  obtain ⟨o, h1, h2, h3⟩ := id hs
  unfold Builtin.Slice.sliceApplied
  refine wpAny_bind ?_
  unfold Builtin.Slice.sliceFields
  refine wpAny_bind (wpAny_field h1 h3 (x := vl) rfl ?_)
  refine wpAny_bind (wpAny_field h1 h3 (x := vu) rfl ?_)
  refine wpAny_bind (wpAny_field h1 h3 (x := vs) rfl (wpAny_pure ?_))
  refine wpAny_bind (HT.slicePart_ ps ?_)
  show wpAny _ _ (if ((-1 : Int) == 0) = true then _ else _) _ _ s
  rw [if_neg (by decide)]
  refine wpAny_bind (HT.slicePart_ pl ?_)
  refine wpAny_bind (HT.slicePart_ pu ?_)
  refine wpAny_bind (wpAny_pure ?_)
  have e1 : Builtin.Slice.sliceAdjust none none (-1) (n : Int) = ((n : Int) - 1, -1) := rfl
  have e2 : Builtin.Slice.slicePlaces ((n : Int) - 1) (-1) (-1) = n := by
    unfold Builtin.Slice.slicePlaces
    rw [if_neg (by decide)]
    split
    · rw [show (-(-1) : Int) = 1 by decide, Int.ediv_one]; omega
    · omega
  show wpAny _ _ (match Builtin.Slice.sliceAdjust none none (-1) (n : Int) with | (lo, hi) => pure (lo, (-1 : Int), Builtin.Slice.slicePlaces lo hi (-1))) _ _ s
  rw [e1]
  show wpAny _ _ (pure ((n : Int) - 1, (-1 : Int), Builtin.Slice.slicePlaces ((n : Int) - 1) (-1) (-1))) _ _ s
  rw [e2]
  exact wpAny_pure h
theorem backPick (xs : Array Value) : ((List.range xs.size).filterMap fun (m : Nat) => xs[((xs.size : Int) - 1 + (m : Int) * (-1)).toNat]?).toArray = xs.toList.reverse.toArray := by
  congr 1
  have h1 : ((List.range xs.size).filterMap fun (m : Nat) => xs[((xs.size : Int) - 1 + (m : Int) * (-1)).toNat]?) = ((List.range xs.size).map fun m => xs.size - 1 - m).filterMap (xs[·]?) := by
    rw [List.filterMap_map]
    congr 1
    funext m
    show xs[((xs.size : Int) - 1 + (m : Int) * (-1)).toNat]? = xs[xs.size - 1 - m]?
    rw [show ((xs.size : Int) - 1 + (m : Int) * (-1)).toNat = xs.size - 1 - m by omega]
  rw [h1, PySem.W.krv_range, List.filterMap_reverse, PySem.W.krv_all]
theorem getTupBack {t sl : Addr} {items : Array Value} {vl vu vs : Value} {Q : Value → Shared → Prop} (ht : IsTup s.heap t items) (hs : s.heap.IsSliceOf sl vl vu vs) (pl : IsPart vl none) (pu : IsPart vu none) (ps : IsPart vs (some (-1)))
    (hz : items.size ≤ sizeLine) (h : Q (.ref s.heap.objs.size) { s with heap := s.heap.push { cls := .type "tuple", data := .seq items.toList.reverse.toArray } }) : wpAny (model prog w) A (getItem (.ref t) (.ref sl)) Q E s := by
  obtain ⟨o, h1, h2, h3⟩ := id hs
  have ty : s.TypeIs (.ref sl) "slice" := ⟨o, h1, h2⟩
  have fit : sizeOk (.seq items.toList.reverse.toArray) := by
    show items.toList.reverse.toArray.size ≤ sizeLine
    rw [List.size_toArray, List.length_reverse, Array.length_toList]
    exact hz
  unfold getItem
  try with_reducible refine wpAny_holding ?_
  first | refine wpAny_bind (wpAny_pure ?_) | skip
  refine wpAny_bind (wpAny_sequenceKey ht.typeIs (by decide) ?_)
  refine wpAny_bind ?_
  refine wpAny_callSpecial?_slot (name := Str.ofString "__getitem__") ht.typeIs PyProof.Rows.slot_tuple_getitem ?_
  refine wpAny_call_entry PyProof.Rows.slot_tuple_getitem ht.typeIs PyProof.Rows.entry_tuple_getitem ?_ (PyProof.Rows.args_tuple_getitem _ _)
  show wpAny _ _ (Builtin.Tuple.tupleItemsOf (.ref t) >>= _) _ _ s
  refine wpAny_bind (tupleItemsOf_ ht ?_)
  refine wpAny_bind (wpAny_typeOf ty ?_)
  rw [if_pos (by decide)]
  refine wpAny_bind (backParts hs pl pu ps ?_)
  show wpAny _ _ (if (((items.size : Int) - 1) == 0 && (-1 : Int) == 1 && items.size == items.size) = true then _ else _) _ _ s
  rw [if_neg (by rw [show ((-1 : Int) == 1) = false from rfl, Bool.and_false, Bool.false_and]; exact Bool.false_ne_true), backPick]
  first
    | exact wpAny_bind (m := Builtin.Tuple.tupleExact _) (wpAny_newObj_type (wpAny_pure ⟨_, rfl, wpAny_pure h⟩) fit)
    | exact wpAny_bind (m := Builtin.Tuple.tupleExact _) (wpAny_newObj_type (wpAny_bind (wpAny_pure (wpAny_pure ⟨_, rfl, wpAny_pure h⟩))) fit)
    | exact wpAny_bind (wpAny_bind (m := Builtin.Tuple.tupleExact _) (wpAny_newObj_type (wpAny_pure (wpAny_pure ⟨_, rfl, wpAny_pure h⟩)) fit))
    | exact wpAny_bind (wpAny_bind (m := Builtin.Tuple.tupleExact _) (wpAny_newObj_type (wpAny_pure ⟨_, rfl, wpAny_pure h⟩) fit))
end
def tRevA (K : PySem.W.Frag) (te : TE) : TE := fun σ H Q => te σ H fun x H1 => ∃ a xs, x = .ref a ∧ ((SqL K H1 a xs ∧ ∀ p, H1 p = none → Q (.ref p) (upd H1 p (.lst xs.reverse))) ∨ (SqT K H1 a xs ∧ ∀ p, H1 p = none → Q (.ref p) (upd H1 p (.tup xs.reverse))))
theorem pe_revA {X : Cx} {e : Expr} {te : TE} {k : Nat} {p1 p2 p3 pos : Pos} (he : PE X e te) : PE X (.Subscript e (.Slice none none (some (.UnaryOp .USub (.Constant (.int 1) k p1) p2)) p3) pos) (tRevA X.K te) := by
  refine ⟨fun pins s σ H Q I hyp => ?_⟩
  refine Subscript_ (thn (he.run pins s σ H _ I hyp) fun v s1 ⟨x, H1, I1, r1, a, xs, ex, q⟩ => ?_)
  subst ex
  obtain rfl : v = Value.ref a := r1
  have back : PO X (some (.UnaryOp .USub (.Constant (.int 1) k p1) p2)) (tPart (tUn (rU fun i => .int (-i)) (tC (.int 1)))) := po_some (pe_un un_neg pe_int)
  refine wpAny_Slice (thn (po_none.run pins s1 σ H1 (fun o h => o = none ∧ h = H1) I1 ⟨rfl, rfl⟩) fun vl s2 ⟨l, H2, I2, pl, e1, e2⟩ => ?_)
  subst e1 e2
  refine thn (po_none.run pins s2 σ H2 (fun o h => o = none ∧ h = H2) I2 ⟨rfl, rfl⟩) fun vu s3 ⟨u, H3, I3, pu, e3, e4⟩ => ?_
  subst e3 e4
  refine thn (back.run pins s3 σ H3 (fun o h => o = some (-1) ∧ h = H3) I3 ⟨1, rfl, -1, rfl, rfl, rfl⟩) fun vs s4 ⟨o, H4, I4, ps, e5, e6⟩ => ?_
  subst e5 e6
  have I5 : Inv X pins σ H4 { s4 with heap := s4.heap.push { cls := .type "slice", data := .fields #[vl, vu, vs] } } := I4.kept (t' := s4.toks) fun _ _ z => Heap.get?_push_of_some _ z
  show wpAny (model X.prog X.w) X.A (subscriptTail e _ (.ref a) (.ref s4.heap.objs.size)) (EP X pins σ Q) X.xe { s4 with heap := s4.heap.push { cls := .type "slice", data := .fields #[vl, vu, vs] } }
  rcases q with ⟨hx, q⟩ | ⟨hx, q⟩
  · obtain ⟨its, r, ht, hz⟩ := I5.list hx
    have hlen := r.length
    refine tail_any (ops := [.ref a, .ref s4.heap.objs.size]) ht.isList.typeIs (PySem.slot_list_getitem.lookup) ?_ (by with_unfolding_all rfl)
    refine wpAny_getItem_list_slice ht.isList (Heap.IsSliceOf.new _ vl vu vs) pl pu ps (by decide) ?_ (by rw [List.size_toArray]; omega)
    rw [PySem.W.krv_pick]
    refine ⟨.ref _, _, I5.laid (t' := s4.toks) (o := .lst xs.reverse) (fun _ _ z => Heap.get?_push_of_some _ z) (Nat.le_refl _) ?_, rfl, q _ (I5.hok.fresh (Nat.le_refl _))⟩
    exact ⟨by rw [List.length_reverse]; exact hz, _, 0, r.reverse, Heap.get?_push_size _ rfl⟩
  · obtain ⟨its, r, ht, hz⟩ := I5.tuple hx
    have hlen := r.length
    refine tail_any (ops := [.ref a, .ref s4.heap.objs.size]) ht.typeIs (PyProof.Rows.slot_tuple_getitem.lookup) ?_ (by with_unfolding_all rfl)
    refine getTupBack ht (Heap.IsSliceOf.new _ vl vu vs) pl pu ps (by rw [List.size_toArray]; omega) ?_
    refine ⟨.ref _, _, I5.laid (t' := s4.toks) (o := .tup xs.reverse) (fun _ _ z => Heap.get?_push_of_some _ z) (Nat.le_refl _) ?_, rfl, q _ (I5.hok.fresh (Nat.le_refl _))⟩
    exact ⟨by rw [List.length_reverse]; exact hz, _, r.reverse, IsTup.new _ _⟩
section
variable {X : Cx} {e : Expr} {te : TE} {p apos cpos pos : Pos}
def tListVals (te : TE) : TE := fun σ H Q => te σ H fun x H1 => ∃ (d : Addr) (kvs : List (Key × V)), x = .ref d ∧ (H1 d = some (.dK kvs) ∨ (kvs = [] ∧ H1 d = some (.dT []))) ∧ ∀ a, H1 a = none → Q (.ref a) (upd H1 a (.lst (kvs.map (·.2))))
/-- list(e.values()) -/
theorem pe_listVals (hc : X.calm = true) (he : PE X e te) (hg : Gl X "list") (hm : X.mg "list" = none) (hv : bootBuiltins "list" = some (.type "list")) (hbase : attributeBase e "values" X.env (eval e X.env) = eval e X.env) (hline : (apos.endLine == cpos.line) = true)
    (hs : starEach [.Call (.Attribute e "values" apos) [] [] cpos] X.env = (false, eval (.Call (.Attribute e "values" apos) [] [] cpos) X.env) :: starEach [] X.env := by rfl) :
    PE X (.Call (.Name "list" p) [.Call (.Attribute e "values" apos) [] [] cpos] [] pos) (tListVals te) := by
  refine ⟨fun pins s σ H Q I hq => ?_⟩
  refine wpAny_Call_Name_kw (ld_blt I hg hm hv ?_)
  refine PyProof.Rows.callWith_type1 ?_ hs rfl
  rw [hs]
  show wpAny _ _ (spliced ((false, eval (.Call (.Attribute e "values" apos) [] [] cpos) X.env) :: backTo pos (starEach [] X.env))) _ _ s
  refine Calls.spliced_cons ?_
  refine wpAny_Call_method (T := "dict") (id := "dict.values") hbase rfl hline F.plainAttrs_dict F.slot_dict_values F.type_dict_values (thn (he.run pins s σ H _ I hq) fun u s1 ⟨x, H1, I1, rx, d, kvs, ex, hd, q⟩ => ?_)
  subst ex
  obtain rfl : u = Value.ref d := rx
  have od : ObjOk X.prog X.w H1 s1.heap d (.dK kvs) := by
    rcases hd with hd | ⟨rfl, hd⟩
    · exact I1.hok d _ hd
    · exact empty_dK (I1.hok d _ hd)
  obtain ⟨hz, hs0, vs, kv, hdo⟩ := od
  obtain ⟨ep, hat⟩ := hdo.dictAt
  have lk : kvs.length = vs.length := Paired.length kv
  have I2 : Inv X pins σ H1 { s1 with heap := s1.heap.push { cls := .type "dict_values", data := .fields #[.ref d] } } := I1.kept (t' := s1.toks) fun b ob q => Heap.get?_push_of_some _ q
  refine ⟨hdo.typeIs, hdo.mapOf.noDict, ?_⟩
  show wpAny _ _ (callWith cpos (.builtin "dict.values") [.ref d] [] []) _ X.xe s1
  refine method_meetsIn F.slot_dict_values F.entry_dict_values rfl (PySem.evalArgs_none ⟨rfl, hdo.typeIs, F.args_dict_values_1 _, _, meets_dict_values (mixKind X.prog X.w) d hs0, ⟨vs, hdo⟩, ?_⟩)
  refine Calls.spliced_nil ?_
  refine PySem.W.kdl_call (PySem.W.kdl_values (knd := mixKind X.prog X.w) (kvs := vs) (ep := ep) (r := s1.heap.objs.size) (d := d)) (I1.ok.hd hc) ⟨⟨_, Heap.get?_push_size _ rfl, rfl, rfl⟩, hat.push _⟩ (by omega) fun h' tk acc' c' hkeep hS hacc => ?_
  refine ⟨.ref _, upd H1 _ (.lst (kvs.map (·.2))), I2.laid hkeep (Nat.le_refl _) (show ObjOk X.prog X.w _ _ _ (.lst (kvs.map (·.2))) from ⟨?_, acc'.toList, c', ?_, ?_⟩), rfl, q _ (I2.hok.fresh (Nat.le_refl _))⟩
  · rw [List.length_map]; exact hz
  · have el : acc'.toList.length = acc'.size := by simp
    refine vals_of_at (by rw [List.length_map, el, hacc.1, lk]) fun j x w h1 h2 => ?_
    obtain ⟨k, hky⟩ := hacc.2 j w (by rw [← Array.getElem?_toList]; exact h2)
    have hj : j < kvs.length := by rw [lk]; exact (List.getElem?_eq_some_iff.mp hky).1
    obtain ⟨qv, g1, g2, g3⟩ := paired_get kv (List.getElem?_eq_getElem hj)
    rw [hky] at g1
    cases g1
    rw [List.getElem?_map, List.getElem?_eq_getElem hj] at h1
    cases h1
    exact g3
  · rw [Array.toArray_toList]; exact hS
end
end FW

set_option Elab.async false
set_option linter.all false
set_option maxRecDepth 100000
/-! The meaning of the small language is kept by the row's tree: expressions. -/
namespace FW
open PySem PySem.Spec PyProof.Rows L2
abbrev XN : XP := fun _ _ => False
structure RE (K : PySem.W.Frag) (H : Hp) (ρ : Env) (σ : L2.St) : Prop where
  len : ρ.length = σ.length
  get : ∀ (i : Nat) (v : Val), ρ[i]? = some (some v) → ∃ x, σ[i]? = some (some x) ∧ RV K H v x
section
variable {K : PySem.W.Frag} {ca : Nat → Addr} {H H1 : Hp} {ρ : Env} {σ : L2.St}
theorem RE.mono (k : TupK K H H1) (r : RE K H ρ σ) : RE K H1 ρ σ := ⟨r.len, fun i v e => let ⟨x, h, q⟩ := r.get i v e; ⟨x, h, q.mono k⟩⟩
theorem RE.set {v : Val} {x : V} (rv : RV K H v x) (r : RE K H ρ σ) (i : Nat) : RE K H (ρ.set i (some v)) (σ.set i (some x)) := by
  refine ⟨by rw [List.length_set, List.length_set, r.len], fun j w e => ?_⟩
  by_cases hij : i = j
  · subst hij
    have hl : i < ρ.length := by
      have := (List.getElem?_eq_some_iff.mp e).1
      rwa [List.length_set] at this
    rw [List.getElem?_set_self hl] at e
    cases e
    exact ⟨x, List.getElem?_set_self (by rw [← r.len]; exact hl), rv⟩
  · rw [List.getElem?_set_ne hij] at e ⊢
    exact r.get j w e
theorem RE.none (r : RE K H ρ σ) (i : Nat) : RE K H (ρ.set i none) (σ.set i none) := by
  refine ⟨by rw [List.length_set, List.length_set, r.len], fun j w e => ?_⟩
  by_cases hij : i = j
  · subst hij
    have hl : i < ρ.length := by
      have := (List.getElem?_eq_some_iff.mp e).1
      rwa [List.length_set] at this
    rw [List.getElem?_set_self hl] at e
    cases e
  · rw [List.getElem?_set_ne hij] at e ⊢
    exact r.get j w e
theorem RE.wipe (r : RE K H ρ σ) : ∀ is : List Nat, RE K H (wipeE ρ is) (L2.wipe σ is)
  | [] => r
  | i :: is => (RE.wipe r is).none i
theorem wipe_at (σ : L2.St) : ∀ (is : List Nat) (j : Nat), (L2.wipe σ is)[j]? = if j ∈ is then (σ[j]?).map (fun _ => none) else σ[j]?
  | [], j => by simp [L2.wipe]
  | i :: is, j => by
    unfold L2.wipe
    by_cases hij : i = j
    · subst hij
      rw [if_pos (by simp)]
      by_cases hl : i < (L2.wipe σ is).length
      · rw [List.getElem?_set_self hl]
        rw [wipe_length] at hl
        rw [List.getElem?_eq_getElem hl]; rfl
      · rw [List.getElem?_eq_none (by rw [List.length_set]; omega)]
        rw [wipe_length] at hl
        rw [List.getElem?_eq_none (by omega)]; rfl
    · rw [List.getElem?_set_ne hij, wipe_at σ is j]
      have : (j ∈ i :: is) ↔ j ∈ is := by simp [Ne.symm hij]
      simp only [this]
theorem wipe_same {σ τ : L2.St} {is : List Nat} (hl : σ.length = τ.length) (h : ∀ j, j ∉ is → σ[j]? = τ[j]?) : L2.wipe σ is = L2.wipe τ is := by
  refine List.ext_getElem? fun j => ?_
  rw [wipe_at, wipe_at]
  by_cases hj : j ∈ is
  · rw [if_pos hj, if_pos hj]
    by_cases hb : j < σ.length
    · rw [List.getElem?_eq_getElem hb, List.getElem?_eq_getElem (hl ▸ hb)]; rfl
    · rw [List.getElem?_eq_none (by omega), List.getElem?_eq_none (by omega)]
  · rw [if_neg hj, if_neg hj, h j hj]
theorem wipe_set {σ : L2.St} {is : List Nat} {i : Nat} {z : Option V} (h : i ∈ is) : L2.wipe (σ.set i z) is = L2.wipe σ is :=
  wipe_same (by rw [List.length_set]) fun j hj => by rw [List.getElem?_set_ne (fun e => hj (by rw [← e]; exact h))]
theorem wipe_wipe {σ : L2.St} {is : List Nat} : L2.wipe (L2.wipe σ is) is = L2.wipe σ is :=
  wipe_same (wipe_length σ is) fun j hj => by rw [wipe_at, if_neg hj]
end
abbrev M1 := Env → Sto → VP → XP → Prop
abbrev MA := Env → Sto → (List Val → Sto → Prop) → XP → Prop
abbrev MI := Env → Sto → (Wk → Sto → Prop) → XP → Prop
abbrev MS := Env → Sto → EndsE → Prop
abbrev MO := Env → Sto → (Option Int → Sto → Prop) → XP → Prop
abbrev MC := Env → Sto → (Bool → Sto → Prop) → XP → Prop
section
variable (K : PySem.W.Frag) (ca : Nat → Addr)
def FinB (S : Sto) (H : Hp) (P : Bool → Sto → Prop) (Q : Bool → Hp → Prop) : Prop := ∀ b S', P b S' → ∀ H', Step S H S' H' → RS K ca H' S' → Q b H'
def FinA (S : Sto) (H : Hp) (P : List Val → Sto → Prop) (Q : List V → Hp → Prop) : Prop := ∀ vs S', P vs S' → ∀ H' xs, Step S H S' H' → RS K ca H' S' → RVs K H' vs xs → Q xs H'
def FinO (S : Sto) (H : Hp) (P : Option Int → Sto → Prop) (Q : Option Int → Hp → Prop) : Prop := ∀ o S', P o S' → ∀ H', Step S H S' H' → RS K ca H' S' → Q o H'
def FinN (S : Sto) (H : Hp) (P : Env → Sto → Prop) (Q : L2.St → Hp → Prop) : Prop := ∀ ρ S', P ρ S' → ∀ H' σ, Step S H S' H' → RS K ca H' S' → RE K H' ρ σ → Q σ H'
/-- an exception, as the library tells it -/
def ExAt (K : PySem.W.Frag) (H : Hp) (x : Exc) (cls : Value) (d : Option Addr) : Prop := cls = .ref (He.ga K x.c) ∧ ((d = none ∧ x.f = Str.empty ∧ x.v = .non) ∨ ∃ dd y, d = some dd ∧ x.f ≠ Str.empty ∧ H dd = some (.xd [(x.f, y)]) ∧ RV K H x.v y)
/-- what is let out is taken -/
def FinX (W : WX) (σ : L2.St) (S : Sto) (H : Hp) (xp : XP) : Prop := ∀ x S', xp x S' → ∀ H' cls d, Step S H S' H' → RS K ca H' S' → ExAt K H' x cls d → W cls d σ H'
/-- .. wherever a statement is -/
def FinXS (W : WX) (S : Sto) (H : Hp) (xp : Env → XP) : Prop := ∀ ρ' σ' S' H', Step S H S' H' → RS K ca H' S' → RE K H' ρ' σ' → FinX K ca W σ' S' H' (xp ρ')
variable (W : WX)
def rE (m : M1) : TE := fun σ H Q => ∃ ρ S P xp, RE K H ρ σ ∧ RS K ca H S ∧ m ρ S P xp ∧ FinP K ca S H P Q ∧ FinX K ca W σ S H xp
def rT (m : M1) : TT := fun σ H Q => ∃ ρ S P xp, RE K H ρ σ ∧ RS K ca H S ∧ m ρ S (fun v S1 => ∃ b, v = .bl b ∧ P b S1) xp ∧ FinB K ca S H P Q ∧ FinX K ca W σ S H xp
def rC (m : MC) : TT := fun σ H Q => ∃ ρ S P xp, RE K H ρ σ ∧ RS K ca H S ∧ m ρ S P xp ∧ FinB K ca S H P Q ∧ FinX K ca W σ S H xp
def rA (m : MA) : TA := fun σ H Q => ∃ ρ S P xp, RE K H ρ σ ∧ RS K ca H S ∧ m ρ S P xp ∧ FinA K ca S H P Q ∧ FinX K ca W σ S H xp
def rO (m : MO) : TO := fun σ H Q => ∃ ρ S P xp, RE K H ρ σ ∧ RS K ca H S ∧ m ρ S P xp ∧ FinO K ca S H P Q ∧ FinX K ca W σ S H xp
def rI (m : MI) : TI := fun σ H R => ∃ ρ S P xp, RE K H ρ σ ∧ RS K ca H S ∧ m ρ S P xp ∧ (∀ w S', P w S' → ∀ H' J, Step S H S' H' → RS K ca H' S' → Jok K ca H' w J → R J H') ∧ FinX K ca W σ S H xp
def rS (m : MS) : TS := fun D σ H => ∃ ρ S nx rt xp, RE K H ρ σ ∧ RS K ca H S ∧ m ρ S ⟨nx, rt, xp⟩ ∧ FinN K ca S H nx D.nx ∧ FinP K ca S H rt D.rt ∧ FinXS K ca W S H xp
end
section
variable {K : PySem.W.Frag} {ca : Nat → Addr}
theorem FinX.after {W : WX} {σ : L2.St} {S S1 : Sto} {H H1 : Hp} {xp : XP} (f : FinX K ca W σ S H xp) (st : Step S H S1 H1) : FinX K ca W σ S1 H1 xp := fun x S' p H' cls d s r e => f x S' p H' cls d (st.trans s) r e
theorem FinXS.after {W : WX} {S S1 : Sto} {H H1 : Hp} {xp : Env → XP} (f : FinXS K ca W S H xp) (st : Step S H S1 H1) : FinXS K ca W S1 H1 xp := fun ρ' σ' S' H' s r e => f ρ' σ' S' H' (st.trans s) r e
theorem FinXS.here {W : WX} {S : Sto} {H : Hp} {xp : Env → XP} {ρ : Env} {σ : L2.St} (f : FinXS K ca W S H xp) (re : RE K H ρ σ) (rs : RS K ca H S) : FinX K ca W σ S H (xp ρ) := f ρ σ S H .refl rs re
theorem FinXS.never {W : WX} {S : Sto} {H : Hp} : FinXS K ca W S H fun _ => XN := fun _ _ _ _ _ _ _ _ _ p => p.elim
theorem FinX.never {W : WX} {σ : L2.St} {S : Sto} {H : Hp} : FinX K ca W σ S H XN := fun _ _ p => p.elim
end
section
variable {K : PySem.W.Frag} {ca : Nat → Addr} {H : Hp} {S : Sto} {ρ : Env} {σ : L2.St}
theorem rE_of {W : WX} {xp : XP} {m : M1} {P : VP} {Q : VK} (re : RE K H ρ σ) (rs : RS K ca H S) (h : m ρ S P xp) (fx : FinX K ca W σ S H xp)
    (f : ∀ v S1, P v S1 → ∀ H1 x, Step S H S1 H1 → RS K ca H1 S1 → RE K H1 ρ σ → TupK K H H1 → RV K H1 v x → Q x H1) : rE K ca W m σ H Q :=
  ⟨ρ, S, P, xp, re, rs, h, (fun v S1 p H1 x st rs1 rv => f v S1 p H1 x st rs1 (re.mono (st.tup rs)) (st.tup rs) rv), fx⟩
theorem rT_of {W : WX} {xp : XP} {m : M1} {P : Bool → Sto → Prop} {Q : Bool → Hp → Prop} (re : RE K H ρ σ) (rs : RS K ca H S) (h : m ρ S (fun v S1 => ∃ b, v = .bl b ∧ P b S1) xp) (fx : FinX K ca W σ S H xp)
    (f : ∀ b S1, P b S1 → ∀ H1, Step S H S1 H1 → RS K ca H1 S1 → RE K H1 ρ σ → TupK K H H1 → Q b H1) : rT K ca W m σ H Q :=
  ⟨ρ, S, P, xp, re, rs, h, (fun b S1 p H1 st rs1 => f b S1 p H1 st rs1 (re.mono (st.tup rs)) (st.tup rs)), fx⟩
theorem rA_of {W : WX} {xp : XP} {m : MA} {P : List Val → Sto → Prop} {Q : List V → Hp → Prop} (re : RE K H ρ σ) (rs : RS K ca H S) (h : m ρ S P xp) (fx : FinX K ca W σ S H xp)
    (f : ∀ vs S1, P vs S1 → ∀ H1 xs, Step S H S1 H1 → RS K ca H1 S1 → RE K H1 ρ σ → TupK K H H1 → RVs K H1 vs xs → Q xs H1) : rA K ca W m σ H Q :=
  ⟨ρ, S, P, xp, re, rs, h, (fun v S1 p H1 x st rs1 rv => f v S1 p H1 x st rs1 (re.mono (st.tup rs)) (st.tup rs) rv), fx⟩
theorem rO_of {W : WX} {xp : XP} {m : MO} {P : Option Int → Sto → Prop} {Q : Option Int → Hp → Prop} (re : RE K H ρ σ) (rs : RS K ca H S) (h : m ρ S P xp) (fx : FinX K ca W σ S H xp)
    (f : ∀ o S1, P o S1 → ∀ H1, Step S H S1 H1 → RS K ca H1 S1 → RE K H1 ρ σ → TupK K H H1 → Q o H1) : rO K ca W m σ H Q :=
  ⟨ρ, S, P, xp, re, rs, h, (fun b S1 p H1 st rs1 => f b S1 p H1 st rs1 (re.mono (st.tup rs)) (st.tup rs)), fx⟩
end
section
variable {X : Cx} {e : Expr} {es : List Expr}
theorem pe_imp {t t' : TE} (h : PE X e t) (i : ∀ σ H Q, t' σ H Q → t σ H Q) : PE X e t' := ⟨fun pins s σ H Q I hw => h.run pins s σ H Q I (i σ H Q hw)⟩
theorem pt_imp {t t' : TT} (h : PT X e t) (i : ∀ σ H Q, t' σ H Q → t σ H Q) : PT X e t' := ⟨fun pins s σ H Q I hw => h.run pins s σ H Q I (i σ H Q hw)⟩
theorem pw_imp {t t' : TT} (h : PW X e t) (i : ∀ σ H Q, t' σ H Q → t σ H Q) : PW X e t' := ⟨fun wh pins s σ H Q I hw => h.run wh pins s σ H Q I (i σ H Q hw)⟩
theorem pa_imp {t t' : TA} (h : PA X es t) (i : ∀ σ H Q, t' σ H Q → t σ H Q) : PA X es t' := ⟨fun pos pins s σ H Q I hw => h.run pos pins s σ H Q I (i σ H Q hw)⟩
theorem po_imp {o : Option Expr} {t t' : TO} (h : PO X o t) (i : ∀ σ H Q, t' σ H Q → t σ H Q) : PO X o t' := ⟨fun pins s σ H Q I hw => h.run pins s σ H Q I (i σ H Q hw)⟩
theorem pts_imp {cs : List Expr} {t t' : TT} (h : PTs X cs t) (i : ∀ σ H Q, t' σ H Q → t σ H Q) : PTs X cs t' := ⟨fun pins s σ H Q I hw => h.run pins s σ H Q I (i σ H Q hw)⟩
theorem pi_imp {tg : Expr} {t t' : TI} (h : PI X tg e t) (i : ∀ σ H R, t' σ H R → t σ H R) : PI X tg e t' := ⟨fun pins s σ H R I hw => h.run pins s σ H R I (i σ H R hw)⟩
theorem ps_imp {st : Stmt} {t t' : TS} (h : PS X st t) (i : ∀ D σ H, t' D σ H → t D σ H) : PS X st t' := ⟨fun pins s σ H D I hw => h.run pins s σ H D I (i D σ H hw)⟩
theorem pss_imp {st : List Stmt} {t t' : TS} (h : PSs X st t) (i : ∀ D σ H, t' D σ H → t D σ H) : PSs X st t' := ⟨fun pins s σ H D I hw => h.run pins s σ H D I (i D σ H hw)⟩
/-- a value that is a bool, as a test -/
theorem pt_of {ca : Nat → Addr} {W : WX} {m : M1} (h : PE X e (rE X.K ca W m)) (he : ∀ whole, isTrue e X.env whole = (do let v ← whole; standAt e.pos; holding [v] (truthy v))) : PT X e (rT X.K ca W m) :=
  pt_imp (pt_val h he) fun σ H Q ⟨ρ, S, P, xp, re, rs, hm, f, fx⟩ => rE_of re rs hm fx fun v S1 ⟨b, ev, p⟩ H1 x st rs1 _ _ rv => by
    subst ev
    cases rv
    exact ⟨b, rfl, f b S1 p H1 st rs1⟩
theorem starsF {env : PySem.Env} : ∀ {es : List Expr}, es.all noStar = true → starEach es env = es.map fun e => (false, eval e env)
  | [], _ => rfl
  | e :: es, h => by
    rw [List.all_cons, Bool.and_eq_true] at h
    rw [noStar_each h.1, starsF h.2]; rfl
theorem starsAny {env : PySem.Env} {pos : Pos} (h : es.all noStar = true) : (backTo pos (starEach es env)).any (·.1) = false := by
  rw [starsF h]
  unfold backTo
  induction es with
  | nil => rfl
  | cons e es ih =>
    rw [List.all_cons, Bool.and_eq_true] at h
    rw [List.map_cons, List.map_cons, List.any_cons, ih h.2]; rfl
theorem starsAll {env : PySem.Env} {pos : Pos} (h : es.all noStar = true) : (backTo pos (starEach es env)).all (fun x => !x.1) = true := by
  rw [starsF h]
  unfold backTo
  induction es with
  | nil => rfl
  | cons e es ih =>
    rw [List.all_cons, Bool.and_eq_true] at h
    rw [List.map_cons, List.map_cons, List.all_cons, ih h.2]; rfl
end
/-! ### several expressions -/
inductive Each (X : Cx) (ca : Nat → Addr) (W : WX) (C : CallSem) : Es → List Expr → Prop
  | nil : Each X ca W C .nil []
  | cons {e : E} {es : Es} {x : Expr} {xs : List Expr} : noStar x = true → PE X x (rE X.K ca W (ev C e)) → PT X x (rT X.K ca W (ev C e)) → Each X ca W C es xs → Each X ca W C (.cons e es) (x :: xs)
section
variable {X : Cx} {ca : Nat → Addr} {W : WX} {C : CallSem}
theorem Each.stars : ∀ {es : Es} {xs : List Expr}, Each X ca W C es xs → xs.all noStar = true
  | _, _, .nil => rfl
  | _, _, .cons h _ _ t => by rw [List.all_cons, h, t.stars]; rfl
theorem Each.pa : ∀ {es : Es} {xs : List Expr}, Each X ca W C es xs → PA X xs (rA X.K ca W (evs C es))
  | _, _, .nil => pa_imp pa_nil fun σ H Q ⟨ρ, S, P, xp, re, rs, hm, f, fx⟩ => f [] S hm H [] .refl rs .nil
  | _, _, .cons h he _ t => pa_imp (pa_cons he t.pa (noStar_each h _ _)) fun σ H Q ⟨ρ, S, P, xp, re, rs, hm, f, fx⟩ =>
    rE_of re rs hm fx fun v S1 p1 H1 x st rs1 re1 _ rv => rA_of re1 rs1 p1 (fx.after st) fun vs S2 p2 H2 xs st2 rs2 re2 tk rvs =>
      f (v :: vs) S2 p2 H2 (x :: xs) (st.trans st2) rs2 (.cons (rv.mono tk) rvs)
theorem Each.and {pos : Pos} : ∀ {es : Es} {xs : List Expr}, Each X ca W C es xs → xs ≠ [] → PE X (.BoolOp .And xs pos) (rE X.K ca W (evAnd C es)) ∧ PW X (.BoolOp .And xs pos) (rT X.K ca W (evAnd C es))
  | _, _, .nil, h => (h rfl).elim
  | _, _, .cons (e := e) _ he ht .nil, _ => by
    refine ⟨pe_imp (pe_one he) ?_, pw_imp (pw_and1 ht) ?_⟩
    · rintro σ H Q ⟨ρ, S, P, xp, re, rs, hm, f, fx⟩
      exact rE_of re rs hm fx fun v S1 ⟨b, ev, p⟩ H1 x st rs1 _ _ rv => f v S1 (by subst ev; exact p) H1 x st rs1 rv
    · rintro σ H Q ⟨ρ, S, P, xp, re, rs, hm, f, fx⟩
      refine ⟨ρ, S, P, xp, re, rs, ?_, f, fx⟩
      have e1 : (fun (v : Val) (S1 : Sto) => ∃ b, v = Val.bl b ∧ ∃ b', Val.bl b = .bl b' ∧ P b' S1) = fun v S1 => ∃ b, v = .bl b ∧ P b S1 := by
        funext v S1
        refine propext ⟨fun ⟨b, h1, b', h2, h3⟩ => ⟨b', by rw [h1, h2], h3⟩, fun ⟨b, h1, h2⟩ => ⟨b, h1, b, rfl, h2⟩⟩
      exact e1 ▸ hm
  | _, _, .cons (e := e) _ he ht (.cons (e := e2) (es := es2) h2 he2 ht2 t2), _ => by
    have t := Each.cons h2 he2 ht2 t2
    obtain ⟨i1, i2⟩ := Each.and t (by simp) (pos := pos)
    refine ⟨pe_imp (pe_and he i1) ?_, pw_imp (pw_and ht i2) ?_⟩
    · rintro σ H Q ⟨ρ, S, P, xp, re, rs, hm, f, fx⟩
      refine rE_of re rs hm fx fun v S1 ⟨b, ev, p⟩ H1 x st rs1 re1 _ rv => ?_
      subst ev
      cases rv
      refine ⟨b, rfl, ?_⟩
      cases b
      · exact f _ _ p _ _ st rs1 (.bl false)
      · exact ⟨ρ, S1, P, xp, re1, rs1, p, f.after st, fx.after st⟩
    · rintro σ H Q ⟨ρ, S, P, xp, re, rs, hm, f, fx⟩
      refine rT_of (P := fun b S1 => if b = true then evAnd C (.cons e2 es2) ρ S1 (fun v S2 => ∃ b', v = .bl b' ∧ P b' S2) xp else P false S1) re rs ?_ fx fun b S1 p H1 st rs1 re1 _ => ?_
      · have e1 : (fun (v : Val) (S1 : Sto) => ∃ b, v = Val.bl b ∧ if b = true then evAnd C (Es.cons e2 es2) ρ S1 (fun v S1 => ∃ b, v = .bl b ∧ P b S1) xp else ∃ b', Val.bl false = .bl b' ∧ P b' S1)
            = fun v S1 => ∃ b, v = .bl b ∧ if b = true then evAnd C (Es.cons e2 es2) ρ S1 (fun v S2 => ∃ b', v = .bl b' ∧ P b' S2) xp else P false S1 := by
          funext v S1
          refine propext ⟨fun ⟨b, h1, h2⟩ => ⟨b, h1, ?_⟩, fun ⟨b, h1, h2⟩ => ⟨b, h1, ?_⟩⟩
          · cases b
            · obtain ⟨b', h3, h4⟩ := h2; cases h3; exact h4
            · exact h2
          · cases b
            · exact ⟨false, rfl, h2⟩
            · exact h2
        exact e1 ▸ hm
      · cases b
        · exact f false S1 p H1 st rs1
        · exact ⟨ρ, S1, P, xp, re1, rs1, p, (fun b S2 p2 H2 st2 rs2 => f b S2 p2 H2 (st.trans st2) rs2), fx.after st⟩
theorem Each.or {pos : Pos} : ∀ {es : Es} {xs : List Expr}, Each X ca W C es xs → xs ≠ [] → PE X (.BoolOp .Or xs pos) (rE X.K ca W (evOr C es)) ∧ PW X (.BoolOp .Or xs pos) (rT X.K ca W (evOr C es))
  | _, _, .nil, h => (h rfl).elim
  | _, _, .cons (e := e) _ he ht .nil, _ => by
    refine ⟨pe_imp (pe_one he) ?_, pw_imp (pw_or1 ht) ?_⟩
    · rintro σ H Q ⟨ρ, S, P, xp, re, rs, hm, f, fx⟩
      exact rE_of re rs hm fx fun v S1 ⟨b, ev, p⟩ H1 x st rs1 _ _ rv => f v S1 (by subst ev; exact p) H1 x st rs1 rv
    · rintro σ H Q ⟨ρ, S, P, xp, re, rs, hm, f, fx⟩
      refine ⟨ρ, S, P, xp, re, rs, ?_, f, fx⟩
      have e1 : (fun (v : Val) (S1 : Sto) => ∃ b, v = Val.bl b ∧ ∃ b', Val.bl b = .bl b' ∧ P b' S1) = fun v S1 => ∃ b, v = .bl b ∧ P b S1 := by
        funext v S1
        refine propext ⟨fun ⟨b, h1, b', h2, h3⟩ => ⟨b', by rw [h1, h2], h3⟩, fun ⟨b, h1, h2⟩ => ⟨b, h1, b, rfl, h2⟩⟩
      exact e1 ▸ hm
  | _, _, .cons (e := e) _ he ht (.cons (e := e2) (es := es2) h2 he2 ht2 t2), _ => by
    have t := Each.cons h2 he2 ht2 t2
    obtain ⟨i1, i2⟩ := Each.or t (by simp) (pos := pos)
    refine ⟨pe_imp (pe_or he i1) ?_, pw_imp (pw_or ht i2) ?_⟩
    · rintro σ H Q ⟨ρ, S, P, xp, re, rs, hm, f, fx⟩
      refine rE_of re rs hm fx fun v S1 ⟨b, ev, p⟩ H1 x st rs1 re1 _ rv => ?_
      subst ev
      cases rv
      refine ⟨b, rfl, ?_⟩
      cases b
      · exact ⟨ρ, S1, P, xp, re1, rs1, p, f.after st, fx.after st⟩
      · exact f _ _ p _ _ st rs1 (.bl true)
    · rintro σ H Q ⟨ρ, S, P, xp, re, rs, hm, f, fx⟩
      refine rT_of (P := fun b S1 => if b = true then P true S1 else evOr C (.cons e2 es2) ρ S1 (fun v S2 => ∃ b', v = .bl b' ∧ P b' S2) xp) re rs ?_ fx fun b S1 p H1 st rs1 re1 _ => ?_
      · have e1 : (fun (v : Val) (S1 : Sto) => ∃ b, v = Val.bl b ∧ if b = true then ∃ b', Val.bl true = .bl b' ∧ P b' S1 else evOr C (Es.cons e2 es2) ρ S1 (fun v S1 => ∃ b, v = .bl b ∧ P b S1) xp)
            = fun v S1 => ∃ b, v = .bl b ∧ if b = true then P true S1 else evOr C (Es.cons e2 es2) ρ S1 (fun v S2 => ∃ b', v = .bl b' ∧ P b' S2) xp := by
          funext v S1
          refine propext ⟨fun ⟨b, h1, h2⟩ => ⟨b, h1, ?_⟩, fun ⟨b, h1, h2⟩ => ⟨b, h1, ?_⟩⟩
          · cases b
            · exact h2
            · obtain ⟨b', h3, h4⟩ := h2; cases h3; exact h4
          · cases b
            · exact h2
            · exact ⟨true, rfl, h2⟩
        exact e1 ▸ hm
      · cases b
        · exact ⟨ρ, S1, P, xp, re1, rs1, p, (fun b S2 p2 H2 st2 rs2 => f b S2 p2 H2 (st.trans st2) rs2), fx.after st⟩
        · exact f true S1 p H1 st rs1
end
end FW

set_option Elab.async false
set_option linter.all false
set_option maxRecDepth 100000
/-! Dict displays, methods, comprehensions. -/
namespace FW
open PySem PySem.Spec PyProof.Rows L2
section
variable {X : Cx} {ca : Nat → Addr} {W : WX} {C : CallSem}
def prV : List V → List (V × V)
  | k :: v :: r => (k, v) :: prV r
  | _ => []
def trsOf (K : PySem.W.Frag) (ca : Nat → Addr) (W : WX) (C : CallSem) : Es → List (TE × TE)
  | .cons k (.cons v r) => (rE K ca W (ev C k), rE K ca W (ev C v)) :: trsOf K ca W C r
  | _ => []
theorem weave_two {k : Option Expr} {ks : List (Option Expr)} {vs xs : List Expr} (h : weave (k :: ks) vs = some xs) : ∃ k' v vr r, k = some k' ∧ vs = v :: vr ∧ weave ks vr = some r ∧ xs = k' :: v :: r := by
  cases k with
  | none => cases vs <;> cases h
  | some k' =>
    cases vs with
    | nil => cases h
    | cons v vr =>
      unfold weave at h
      split at h
      · rename_i r e
        cases h
        exact ⟨k', v, vr, r, rfl, rfl, e, rfl⟩
      · cases h
theorem weave_nil {vs xs : List Expr} (h : weave [] vs = some xs) : vs = [] ∧ xs = [] := by
  cases vs with
  | nil => cases h; exact ⟨rfl, rfl⟩
  | cons v vr => cases h
theorem Each.pairs {pos : Pos} : ∀ {ks : List (Option Expr)} {vs xs : List Expr} {es : Es}, weave ks vs = some xs → Each X ca W C es xs →
    PPs X pos ks vs (trsOf X.K ca W C es) ∧ ks.all (·.isSome) = true ∧ ks.length = vs.length ∧
      ∀ (ρ : Env) (S : Sto) (P : List Val → Sto → Prop) (σ : L2.St) (H : Hp) (Q : List (V × V) → Hp → Prop), RE X.K H ρ σ → RS X.K ca H S → evs C es ρ S P XN →
        (∀ ws S1, P ws S1 → ∀ H1 zs, Step S H S1 H1 → RS X.K ca H1 S1 → RVs X.K H1 ws zs → Q (prV zs) H1) → tPairs (trsOf X.K ca W C es) σ H Q
  | [], vs, xs, es, h, t => by
    obtain ⟨rfl, rfl⟩ := weave_nil h
    cases t
    exact ⟨pps_nil, rfl, rfl, fun ρ S P σ H Q re rs hm f => f [] S hm H [] .refl rs .nil⟩
  | k :: ks, vs, xs, es, h, t => by
    obtain ⟨k', v, vr, r, rfl, rfl, h2, rfl⟩ := weave_two h
    cases t with
    | cons _ pk _ t =>
      cases t with
      | cons _ pv _ t =>
        obtain ⟨i1, i2, i3, i4⟩ := Each.pairs h2 t (pos := pos)
        refine ⟨pps_cons pk pv i1, by rw [List.all_cons, i2]; rfl, by rw [List.length_cons, List.length_cons, i3], fun ρ S P σ H Q re rs hm f => ?_⟩
        refine rE_of re rs hm .never fun a S1 p1 H1 x st1 rs1 re1 _ ra => rE_of re1 rs1 p1 .never fun b S2 p2 H2 y st2 rs2 re2 tk2 rb => ?_
        refine i4 ρ S2 _ σ H2 _ re2 rs2 p2 fun ws S3 p3 H3 zs st3 rs3 rz => ?_
        have tk3 := st3.tup rs2
        exact f (a :: b :: ws) S3 p3 H3 (x :: y :: zs) ((st1.trans st2).trans st3) rs3 (.cons ((ra.mono tk2).mono tk3) (.cons (rb.mono tk3) rz))
theorem rd_pairs {K : PySem.W.Frag} {H : Hp} : ∀ {vs : List Val} {zs : List V} {ps : List (Val × Val)}, pairsOf vs = some ps → allK ps = true → RVs K H vs zs →
    ∃ kvs : List (Key × V), RD K H kOf ps kvs ∧ prV zs = kvs.map (fun kv => (kV kv.1, kv.2)) ∧ kvs.length * 2 = vs.length
  | [], _, _, h, _, r => by cases h; cases r; exact ⟨[], .nil, rfl, rfl⟩
  | [_], _, _, h, _, _ => by cases h
  | k :: v :: vs, _, _, h, g, r => by
    unfold pairsOf at h
    split at h
    · rename_i ps e
      cases h
      unfold allK at g
      rw [List.all_cons, Bool.and_eq_true] at g
      obtain ⟨q, eq⟩ := Option.isSome_iff_exists.mp g.1
      cases r with
      | cons rk r =>
        cases r with
        | cons rv r =>
          obtain ⟨kvs, h1, h2, h3⟩ := rd_pairs e g.2 r
          refine ⟨(q, _) :: kvs, .cons eq rv h1, ?_, by rw [List.length_cons, List.length_cons, List.length_cons, ← h3]; omega⟩
          show (_, _) :: prV _ = _ :: _
          rw [h2, rk.key eq]
    · cases h
theorem rd_merge {K : PySem.W.Frag} {H : Hp} : ∀ {ps : List (Val × Val)} {kvs : List (Key × V)} {acc : List (Val × Val)} {kacc : List (Key × V)}, RD K H kOf ps kvs → RD K H kOf acc kacc →
    RD K H kOf (ps.foldl (fun d p => dput d p.1 p.2) acc) (mergeK kacc kvs)
  | _, _, _, _, .nil, a => a
  | _, _, _, _, .cons (r := r') (t := t') e rv rr, a => rd_merge (ps := r') (kvs := t') rr (a.put (fun _ _ _ => kOf_inj) e rv)
/-- a new object that stood hidden while it was made -/
theorem Step.late {S S2 : Sto} {H H2 : Hp} {p : Addr} {o : Ob} {u u' : HO} (hn : H p = none) (hs : S p = none) (st : Step S (upd H p u) S2 H2) : Step S H (S2.put p o) (upd H2 p u') where
  hid := fun a v e h => by
    have ne : a ≠ p := ne_of_none h hn
    rw [upd_ne ne]
    exact st.hid a v e (by rw [upd_ne ne]; exact h)
  new := fun a e n => by
    by_cases hb : a = p
    · rw [hb]; exact hn
    · rw [put_ne hb] at n
      have := st.new a e n
      rw [upd_ne hb] at this; exact this
  old := fun a e => by
    by_cases hb : a = p
    · exact absurd hs (hb ▸ e)
    · rw [put_ne hb]; exact st.old a e
theorem Each.dic {pos : Pos} {ks : List (Option Expr)} {vs xs : List Expr} {es : Es} (h : weave ks vs = some xs) (t : Each X ca W C es xs) (h15 : ks.length ≤ 15) : PE X (.Dict ks vs pos) (rE X.K ca W (ev C (.dic es))) := by
  by_cases h0 : ks = []
  · subst h0
    obtain ⟨rfl, rfl⟩ := weave_nil h
    cases t
    refine pe_imp pe_dnewK ?_
    rintro σ H Q ⟨ρ, S, P, xp, re, rs, ⟨_, ps, hp, _, hm⟩, f, fx⟩ a ha
    cases hp
    exact f (.ref a) _ (hm a (rs.fresh ha)) _ _ (Step.new1 rs ha) (rs.put (noneFix ha) (.inl ⟨[], upd_same, .nil⟩)) (.ref a)
  · obtain ⟨i1, i2, i3, i4⟩ := Each.pairs h t (pos := pos)
    refine pe_imp (pe_disp i1 i2 i3 h0 h15) ?_
    rintro σ H Q ⟨ρ, S, P, xp, re, rs, hm, f, fx⟩ a ha
    have hs := rs.fresh ha
    have tk : TupK X.K H (upd H a (.dK [])) := tupK_upd (noneFix ha)
    refine i4 ρ S _ σ _ _ (re.mono tk) (rs.keep ha) hm fun ws S1 ⟨hl, ps, hp, hk, ha2⟩ H1 zs st rs1 rz => ?_
    obtain ⟨kvs, r1, r2, r3⟩ := rd_pairs hp hk rz
    have e1 := st.hid a _ hs upd_same
    have s1 : S1 a = none := by
      cases e : S1 a with
      | none => rfl
      | some u => have := st.new a hs (by rw [e]; exact fun z => nomatch z); rw [upd_same] at this; cases this
    refine ⟨e1, kvs, r2, by omega, ?_⟩
    have nf : ∀ v, H1 a = some v → Fix v = false := fun v z => by rw [e1] at z; cases z; rfl
    exact f (.ref a) _ (ha2 a s1) _ _ (Step.late ha hs st) (rs1.put nf (.inl ⟨_, upd_same, (rd_merge r1 .nil).mono (tupK_upd nf)⟩)) (.ref a)
/-- o.m(..), o's type found as it comes -/
theorem pe_mth {m : Mt} {k : Nat} {o e : Expr} {mo : M1} {ma : MA} {es : List Expr} {apos cpos : Pos} (hr : RoomU X.A) (ho : PE X o (rE X.K ca W mo)) (ha : PA X (e :: es) (rA X.K ca W ma)) (hs : (e :: es).all noStar = true) (hl : (e :: es).length < 30)
    (hb : attributeBase o (mtN m) X.env (eval o X.env) = eval o X.env) (hline : (apos.endLine == cpos.line) = true) :
    PE X (.Call (.Attribute o (mtN m) apos) (e :: es) [] cpos) (rE X.K ca W fun ρ S P Y => mo ρ S (fun v S1 => ∃ T, mtTy m v S1 = some T ∧ ma ρ S1 (fun vs S2 => semMt m T v vs S2 P) Y) Y) := by
  refine ⟨fun pins s σ H Q I ⟨ρ, S, P, xp, re, rs, hm, f, fx⟩ => ?_⟩
  have run := ho.run pins s σ H (fun x H1 => ∃ v S1, RV X.K H1 v x ∧ RS X.K ca H1 S1 ∧ Step S H S1 H1 ∧ ∃ T, mtTy m v S1 = some T ∧ ma ρ S1 (fun vs S2 => semMt m T v vs S2 P) xp) I
    (rE_of re rs hm fx fun v S1 p H1 x st rs1 _ _ rv => ⟨v, S1, rv, rs1, st, p⟩)
  refine wpAny_Call_method_late hb (by
    rw [Bool.and_eq_true, Bool.and_eq_true]
    refine ⟨⟨starsAll hs, rfl⟩, decide_eq_true ?_⟩
    simpa using hl) hline rfl (thn run fun u s1 ⟨x, H1, I1, r1, v, S1, rv, rs1, st, T, ht, p⟩ => ?_)
  obtain ⟨pa, slot, hty⟩ := mt_place m T ht
  obtain ⟨h1, h2⟩ := tyV_is I1 r1 (mt_ty rs1 rv ht)
  refine ⟨mtS T, mtId m T, pa, slot, hty, h1, h2, ?_⟩
  have run2 := ha.run cpos pins s1 σ H1 (fun zs H2 => ∃ vs S2, RVs X.K H2 vs zs ∧ RS X.K ca H2 S2 ∧ Step S1 H1 S2 H2 ∧ semMt m T v vs S2 P) I1 (rA_of (re.mono (st.tup rs)) rs1 p (fx.after st) fun vs S2 p2 H2 zs st2 rs2 _ _ rz => ⟨vs, S2, rz, rs2, st2, p2⟩)
  rw [List.all_cons, Bool.and_eq_true] at hs
  have hh := noStar_each hs.1 es X.env
  rw [hh] at run2 ⊢
  refine Calls.callWith_builtin (by show (false || (backTo cpos (starEach es X.env)).any (·.1)) = false; rw [starsAny hs.2]; rfl) (Calls.evalArgs_plain ?_)
  exact thn run2 fun us s2 ⟨zs, H2, I2, r2, vs, S2, rz, rs2, st2, p2⟩ => snd_mtr hr m T pins s2 σ H2 x zs u us Q I2 r1 r2 ⟨S2, v, vs, P, rs2, rv.mono (st2.tup rs1), rz, p2, f.after (st.trans st2)⟩
theorem pe_mth0 {m : Mt} {k : Nat} {o : Expr} {mo : M1} {apos cpos : Pos} (hr : RoomU X.A) (ho : PE X o (rE X.K ca W mo))
    (hb : attributeBase o (mtN m) X.env (eval o X.env) = eval o X.env) (hline : (apos.endLine == cpos.line) = true) :
    PE X (.Call (.Attribute o (mtN m) apos) [] [] cpos) (rE X.K ca W fun ρ S P Y => mo ρ S (fun v S1 => ∃ T, mtTy m v S1 = some T ∧ semMt m T v [] S1 P) Y) := by
  refine ⟨fun pins s σ H Q I ⟨ρ, S, P, xp, re, rs, hm, f, fx⟩ => ?_⟩
  have run := ho.run pins s σ H (fun x H1 => ∃ v S1, RV X.K H1 v x ∧ RS X.K ca H1 S1 ∧ Step S H S1 H1 ∧ ∃ T, mtTy m v S1 = some T ∧ semMt m T v [] S1 P) I
    (rE_of re rs hm fx fun v S1 p H1 x st rs1 _ _ rv => ⟨v, S1, rv, rs1, st, p⟩)
  refine wpAny_Call_method0_late hb hline (thn run fun u s1 ⟨x, H1, I1, r1, v, S1, rv, rs1, st, T, ht, p⟩ => ?_)
  obtain ⟨pa, slot, hty⟩ := mt_place m T ht
  obtain ⟨h1, h2⟩ := tyV_is I1 r1 (mt_ty rs1 rv ht)
  exact ⟨mtS T, mtId m T, pa, slot, hty, h1, h2, Calls.callWith_builtin rfl (PySem.evalArgs_none (snd_mtr hr m T pins s1 σ H1 x [] u [] Q I1 r1 .nil ⟨S1, v, [], P, rs1, rv, .nil, p, f.after st⟩))⟩
/-! ### targets -/
theorem stores_len : ∀ {is : List Nat} {vs : List Val} {ρ : Env}, (stores is vs ρ).length = ρ.length
  | [], _, _ => by unfold stores; rfl
  | i :: is, [], ρ => rfl
  | i :: is, v :: vs, ρ => by unfold stores; rw [stores_len, List.length_set]
def tgsOf : List Nat → TGs
  | [] => gNil
  | i :: is => gCons (gName i) (tgsOf is)
/-- what a target must be -/
def TgOk (X : Cx) (i : Nat) (x : Str) : Prop := X.N[i]? = some x ∧ Loc X.env.scope x ∧ (X.fn x = true ∨ X.env.scope.names.lookup x = some .local)
inductive Tgs (X : Cx) : List Nat → List Expr → Prop
  | nil : Tgs X [] []
  | cons {i : Nat} {x : Str} {p : Pos} {is : List Nat} {es : List Expr} : TgOk X i x → Tgs X is es → Tgs X (i :: is) (.Name x p :: es)
theorem Tgs.pgs (nd : X.N.Nodup) : ∀ {is : List Nat} {es : List Expr}, Tgs X is es → PGs X es (tgsOf is)
  | _, _, .nil => pgs_nil
  | _, _, .cons h t => pgs_cons (pg_name nd h.1 h.2.1 h.2.2) (t.pgs nd) rfl
theorem Tgs.len : ∀ {is : List Nat} {es : List Expr}, Tgs X is es → (assignEach es X.env).length = is.length
  | _, _, .nil => rfl
  | _, _, .cons (es := es) h t => by
    show (_ :: assignEach es X.env).length = _
    rw [List.length_cons, t.len, List.length_cons]
theorem Tgs.plain : ∀ {is : List Nat} {es : List Expr}, Tgs X is es → (assignEach es X.env).findIdx? (·.1) = none
  | _, _, .nil => rfl
  | _, _, .cons (x := x) (p := p) (es := es) h t => by
    show List.findIdx? (·.1) ((false, assign (.Name x p) X.env) :: assignEach es X.env) = none
    rw [List.findIdx?_cons, t.plain]; rfl
theorem tgs_run {K : PySem.W.Frag} {H : Hp} {Q : L2.St → Hp → Prop} : ∀ {is : List Nat} {vs : List Val} {xs : List V} {ρ : Env} {σ : L2.St}, RE K H ρ σ → RVs K H vs xs → vs.length = is.length → (∀ σ', RE K H (stores is vs ρ) σ' → Q σ' H) → tgsOf is xs σ H Q
  | [], _, _, ρ, σ, re, rv, hl, f => by
    cases rv with
    | nil => exact ⟨rfl, f σ re⟩
    | cons _ _ => cases hl
  | i :: is, _, _, ρ, σ, re, rv, hl, f => by
    cases rv with
    | nil => cases hl
    | cons h t => exact ⟨_, _, rfl, tgs_run (re.set h i) t (Nat.succ.inj hl) f⟩
/-- a target's reading -/
def gOf (K : PySem.W.Frag) : Tg → TG
  | .nm i => gName i
  | .tp is => gTup K is.length (tgsOf is)
theorem gOf_run {K : PySem.W.Frag} {tg : Tg} {H : Hp} {v : Val} {x : V} {ρ : Env} {σ : L2.St} {P : Env → Prop} {Q : L2.St → Hp → Prop} (re : RE K H ρ σ) (rv : RV K H v x) (h : asgT tg v ρ P) (f : ∀ ρ' σ', P ρ' → RE K H ρ' σ' → Q σ' H) : gOf K tg x σ H Q := by
  cases tg with
  | nm i => exact f _ _ h (re.set rv i)
  | tp is =>
    obtain ⟨vs, rfl, hl, p⟩ := h
    cases rv with
    | tup e q => exact ⟨_, _, rfl, .of e, by rw [← q.len, hl], tgs_run re q hl fun σ' re' => f _ σ' p re'⟩
theorem wipe_tgs {own : List Nat} : ∀ {is : List Nat} {xs : List V} {σ τ : L2.St} {H : Hp} {Q : L2.St → Hp → Prop}, (∀ i ∈ is, i ∈ own) → L2.wipe σ own = τ → tgsOf is xs σ H Q → tgsOf is xs σ H fun σ2 H2 => L2.wipe σ2 own = τ ∧ Q σ2 H2
  | [], _, σ, τ, H, Q, hi, hw, ⟨h1, h2⟩ => ⟨h1, hw, h2⟩
  | i :: is, _, σ, τ, H, Q, hi, hw, ⟨v, r, h1, h2⟩ => ⟨v, r, h1, wipe_tgs (fun j hj => hi j (List.mem_cons_of_mem _ hj)) (by rw [wipe_set (hi i List.mem_cons_self)]; exact hw) h2⟩
def tgL : Tg → List Nat
  | .nm i => [i]
  | .tp is => is
theorem wipe_g {K : PySem.W.Frag} {own : List Nat} {tg : Tg} {x : V} {σ τ : L2.St} {H : Hp} {Q : L2.St → Hp → Prop} (hi : ∀ i ∈ tgL tg, i ∈ own) (hw : L2.wipe σ own = τ) (h : gOf K tg x σ H Q) : gOf K tg x σ H fun σ2 H2 => L2.wipe σ2 own = τ ∧ Q σ2 H2 := by
  cases tg with
  | nm i => exact ⟨by rw [wipe_set (hi i (by simp [tgL]))]; exact hw, h⟩
  | tp is =>
    obtain ⟨a, xs, h1, h2, h3, h4⟩ := h
    exact ⟨a, xs, h1, h2, h3, wipe_tgs (fun i hj => hi i hj) hw h4⟩
/-! ### comprehensions -/
theorem RS.adopt {K : PySem.W.Frag} {H : Hp} {S : Sto} {D : Addr} {o : Ob} (rs : RS K ca H S) (h : RO K ca H D o) : RS K ca H (S.put D o) := by
  intro a u e
  by_cases hb : a = D
  · subst hb; rw [put_same] at e; cases e; exact h
  · rw [put_ne hb] at e; exact rs a u e
theorem Step.updH {S S' : Sto} {H H' : Hp} {D : Addr} {u : HO} (st : Step S H S' H') (hD : H D = none) : Step S H S' (upd H' D u) :=
  ⟨fun a o e h => by rw [upd_ne (ne_of_none h hD)]; exact st.hid a o e h, st.new, st.old⟩
theorem Step.putS {S S' : Sto} {H H' : Hp} {D : Addr} {o : Ob} (st : Step S H S' H') (hD : H D = none) : Step S H (S'.put D o) H' where
  hid := st.hid
  new := fun a e n => by
    by_cases hb : a = D
    · rw [hb]; exact hD
    · rw [put_ne hb] at n; exact st.new a e n
  old := fun a e => by
    by_cases hb : a = D
    · rw [hb, put_same]; exact fun z => nomatch z
    · rw [put_ne hb]; exact st.old a e
theorem Step.hides {S S' : Sto} {H H' : Hp} {D : Addr} {u : HO} (st : Step S H S' H') (hs : S D = none) (hD : H D = some u) : S' D = none ∧ H' D = some u := by
  refine ⟨?_, st.hid D u hs hD⟩
  cases e : S' D with
  | none => rfl
  | some o => have := st.new D hs (by rw [e]; exact fun z => nomatch z); rw [hD] at this; cases this
def lcTurn (tg : Tg) (own : List Nat) (mc : MC) (me : M1) (ρ : Env) : Val → Sto → (Option Val → Sto → Prop) → Prop := fun x S2 K => asgT tg x (wipeE ρ own) fun ρ' =>
  mc ρ' S2 (fun b S3 => if b then me ρ' S3 (fun v S4 => K (some v) S4) XN else K none S3) XN
theorem lc_run {W0 : WX} {K : PySem.W.Frag} {mi : MI} {mc : MC} {me : M1} {tg : Tg} {own : List Nat} (hown : ∀ i ∈ tgL tg, i ∈ own) {σ : L2.St} {H : Hp} {Q : VK}
    (h : rE K ca W (fun ρ S P Y => mi ρ S (fun w S1 => lcLoop w.ok (lcTurn tg own mc me ρ) w.xs [] S1 fun acc S2 => allo S2 (.lst acc) P) Y) σ H Q) :
    tLc (rI K ca W mi) (gOf K tg) (rC K ca W0 mc) (rE K ca W0 me) own σ H Q := by
  obtain ⟨ρ, S, P, xp, re, rs, hm, f, fx⟩ := h
  refine ⟨ρ, S, _, xp, re, rs, hm, (fun w S1 p H1 J st rs1 jok D hD => ?_), fx⟩
  have tk1 := st.tup rs
  refine ⟨fun i m H' => ∃ acc accV S', i ≤ w.xs.length ∧ m = w.xs.length - i ∧ RS K ca H' S' ∧ Step S1 H1 S' H' ∧ H' D = some (.lst accV) ∧ RVs K H' acc accV ∧ S' D = none ∧ lcLoop w.ok (lcTurn tg own mc me ρ) (w.xs.drop i) acc S' fun acc S2 => allo S2 (.lst acc) P,
    ⟨w.xs.length, [], [], S1, Nat.zero_le _, rfl, rs1.keep hD, Step.refl.updH hD, upd_same, .nil, rs1.fresh hD, p⟩, ?_⟩
  rintro i m H' ⟨acc, accV, S', hi, rfl, rs', st', hD', ra, hS', lp⟩
  have tk' := st'.tup rs1
  by_cases hlt : i < w.xs.length
  · refine .inr ?_
    rw [List.drop_eq_getElem_cons hlt] at lp
    obtain ⟨ok, lp⟩ := lp
    obtain ⟨go, yl⟩ := (jok i H' S' tk' rs' ok).2 hlt
    refine ⟨go, _, fun H'' q => ⟨w.xs.length - (i + 1), by omega, q⟩, fun x H2 y => ?_⟩
    obtain ⟨v, hv, rv, rs2, st2⟩ := yl x H2 y
    rw [List.getElem?_eq_getElem hlt] at hv
    cases hv
    have tk2 := st2.tup rs'
    obtain ⟨hS2, hD2⟩ := st2.hides hS' hD'
    have re2 : RE K H2 (wipeE ρ own) (L2.wipe σ own) := (((re.mono tk1).mono tk').mono tk2).wipe own
    refine wipe_g hown wipe_wipe (gOf_run re2 rv lp fun ρ' σ' p2 re' => ?_)
    refine ⟨ρ', S', _, XN, re', rs2, p2, (fun b S3 p3 H3 st3 rs3 => ?_), .never⟩
    obtain ⟨hS3, hD3⟩ := st3.hides hS2 hD2
    have tk3 := st3.tup rs2
    cases b
    · rw [if_neg (by simp)]
      exact ⟨acc, accV, S3, hlt, rfl, rs3, (st'.trans st2).trans st3, hD3, (ra.mono tk2).mono tk3, hS3, p3⟩
    · rw [if_pos rfl]
      refine rE_of (re'.mono tk3) rs3 p3 .never fun z S4 p4 H4 y st4 rs4 _ tk4 rz => ?_
      obtain ⟨hS4, hD4⟩ := st4.hides hS3 hD3
      obtain ⟨hz, p4⟩ := p4
      have ra4 := ((ra.mono tk2).mono tk3).mono tk4
      have nf : ∀ v, H4 D = some v → Fix v = false := fun v z => by rw [hD4] at z; cases z; rfl
      have tk5 := tupK_upd (K := K) (u := .lst (accV ++ [y])) nf
      refine ⟨accV, hD4, by rw [line_is, ← ra4.len]; exact hz, acc ++ [z], accV ++ [y], S4, hlt, rfl, ?_, (((st'.trans st2).trans st3).trans st4).updH hD, upd_same, (ra4.append (.one rz)).mono tk5, hS4, p4⟩
      intro a o e
      exact (rs4 a o e).stay (upd_ne fun z => by rw [z, hS4] at e; cases e) tk5
  · have e : i = w.xs.length := by omega
    rw [e, List.drop_length] at lp
    obtain ⟨ok, lp⟩ := lp
    refine .inl ⟨(jok i H' S' tk' rs' ok).1 e, ?_⟩
    exact f (.ref D) _ (lp D hS') H' (.ref D) (st.trans (st'.putS hD)) (rs'.adopt ⟨accV, hD', ra⟩) (.ref D)
end
end FW

set_option Elab.async false
set_option linter.all false
set_option maxRecDepth 100000
/-! CF.__init__(self, ..) where CF is an own class of exceptions without an __init__ of its own. -/
namespace FW
open PySem PySem.Spec PyProof.Rows L2
section
variable {X : Cx} {e : Expr} {es : List Expr} {ta : TA} {p1 p2 pos : Pos} {x : Str} {CF : Addr}
theorem pe_owninit {pl : Sem Bool} (hg : Gl X x) (hm : X.mg x = some (.ref CF)) (gC : PySem.W.specialIn X.K (.ref CF) "__getattribute__" = some (some (.builtin "type.__getattribute__"))) (tC : PySem.W.typeIn X.K (.ref CF) = some (.type "type")) (rC : PySem.W.readsIn X.K CF (.type "type") = true)
    (vV : PySem.W.findCls X.K (.ref CF) (.type "type") "__init__" = some (.val (.builtin "ValueError.__init__"))) (ha : PA X (e :: es) ta) (hdb : (x == ("__debug__" : Str)) = false)
    (hc : eval (.Call (.Attribute (.Name x p1) "__init__" p2) (e :: es) [] pos) X.env = (do
      let ov ← eval (.Name x p1) X.env
      standAt p2.atName
      let (f, first) ← holding [ov] (getMethod ov "__init__" pl)
      callWith pos f first (backTo pos (starEach (e :: es) X.env)) (backToKw pos (keywordEach [] X.env))))
    (he : starEach (e :: es) X.env = (false, eval e X.env) :: starEach es X.env) (hpl : (backTo pos (starEach es X.env)).any (·.1) = false) :
    PE X (.Call (.Attribute (.Name x p1) "__init__" p2) (e :: es) [] pos) (tVeI X.K ta) := by
  refine ⟨fun pins s σ H Q I h => ?_⟩
  refine PySem.W.methodCall_KW (ld_glob I hg hm ?_ hdb) hc
  obtain ⟨m, fr⟩ := I.fr
  refine PySem.W.method_of_cls fr I.ok.mod.kin gC (PySem.W.cls_val fr I.ok.mod.kin tC rC vV (by decide +kernel) ?_)
  show wpAny _ _ (callWith pos (Value.builtin "ValueError.__init__") [] (backTo pos (starEach (e :: es) X.env)) []) _ _ _
  refine PyProof.Rows.callWith_method1 (thn (ha.run pos pins _ σ H _ (I.tok _) h) fun us s1 ⟨vs, H1, I1, r1, a, C, ws, ev, hl, T, ea, q⟩ => ?_) he hpl
  subst ev
  cases r1 with
  | @cons _ u0 _ ur ra rw' =>
    obtain rfl : u0 = Value.ref a := ra
    have hlen : ur.length ≤ sizeLine := by
      rw [← Paired.length rw', sizeLine_eq]
      omega
    exact oinit_ok T I1 ea hlen fun s' J => ⟨.non, H1, J, rfl, q⟩
end
end FW

set_option Elab.async false
set_option linter.all false
set_option maxRecDepth 100000
set_option maxHeartbeats 1000000
/-! try: the caught exception is tracked, so that it outlives the suite. -/
namespace FW
open PySem PySem.Spec PyProof.Rows L2
section
variable {X : Cx} {pins : List (Addr × Obj)} {σ : L2.St} {H : Hp} {s sI s' : Shared} {B h3 : Heap} {a : Addr} {xn : Str} {d : Option Addr}
theorem ex_ok {K : PySem.W.Frag} {P : Program} {w : World} {H : Hp} {h : Heap} {oe : Obj} {vs : Array Value} (e : h.get? a = some oe) (z : L2N.Zn (.ref (He.ga K xn)) d oe) (dd : oe.data = .fields vs) : ObjOk P w H h a (EX K xn a d) :=
  ⟨⟨oe, vs, e, z.zc, dd, z.2.2 vs dd⟩, ⟨oe, e⟩, fun _ _ ⟨o, v, q, r⟩ k => ⟨o, v, k o q, r⟩⟩
/-- the caught one's place is new, and no frame's -/
theorem fly_new {Z : Obj → Prop} (nb : ∀ b o, sI.heap.get? b = some o → b ∉ frs X.stack → B.get? b = some o) (fl : HandSPX.FlyingZ B X.stack a Z h3) : a ∉ frs X.stack ∧ sI.heap.get? a = none := by
  obtain ⟨_, bn, ff, oe, vs, _, _, _, he, _, hd, _⟩ := fl
  have nf : a ∉ frs X.stack := fun hm => by
    obtain ⟨_, o', e', hnf⟩ := ff.mem hm
    rw [he] at e'
    cases e'
    exact hnf _ hd
  refine ⟨nf, ?_⟩
  cases q : sI.heap.get? a with
  | none => rfl
  | some o => rw [nb a o q nf] at bn; cases bn
/-- the suite starts: the caught exception stands in the abstract heap -/
theorem catch_inv (hs : X.stack = X.env :: X.outer) (J : Inv X pins σ H sI) (nb : ∀ b o, sI.heap.get? b = some o → b ∉ frs X.stack → B.get? b = some o) (fl : HandSPX.FlyingZ B X.stack a (L2N.Zn (.ref (He.ga X.K xn)) d) h3)
    (up : sI.heap.UpToSlots h3) (os : s'.os = sI.os) (ag : AllBare s'.gens) (na : H a = none) : Inv (X.suite a (X.pn ++ pins)) [] σ (upd H a (EX X.K xn a d)) { s' with heap := h3 } := by
  obtain ⟨nf, fresh⟩ := fly_new nb fl
  obtain ⟨stay, _, _, oe, vs, _, _, _, he, hz, hd, _⟩ := fl
  have other : ∀ {b : Addr} {o : Obj}, sI.heap.get? b = some o → b ≠ a := fun {b o} e z => by rw [z, fresh] at e; cases e
  have slots : ∀ b ∈ frs X.stack, ∀ o, sI.heap.get? b = some o → ∃ sl, h3.get? b = some { o with slots := sl } := fun b hb o e => by
    obtain ⟨_, o', e', hnf⟩ := J.stack.mem hb
    rw [e] at e'
    cases e'
    exact up b o e hnf
  have old := (J.inGround nb).kept stay
  have ok2 : HOk X.prog X.w (upd H a (EX X.K xn a d)) h3 := fun b o q => by
    by_cases hb : b = a
    · subst hb
      rw [upd_same] at q
      cases q
      exact ex_ok he hz hd
    · rw [upd_ne hb] at q
      exact (old b o q).stay (fun _ _ _ r => r) (fun c r => by rw [upd_ne (ne_of_none r na)]; exact r) fun c xs r => by rw [upd_ne (ne_of_none r na)]; exact r
  have I2 := J.call (ch := []) (h' := h3) (g' := s'.gens) (t' := s'.toks) (d' := s'.drawn) (H' := upd H a (EX X.K xn a d))
    ⟨fun b o e _ hb _ => stay b o (nb b o e hb), fun b o e _ hb _ => slots b hb o e, fun b o e n _ => by rw [upd_ne (other e)]; exact n, fun b o e _ => by
      by_cases hb : b ∈ frs X.stack
      · obtain ⟨sl, q⟩ := slots b hb o e
        exact ⟨_, q⟩
      · exact ⟨o, stay b o (nb b o e hb)⟩, fun b xs e => by rw [upd_ne (ne_of_none e na)]; exact e, fun b o u e => by rw [upd_ne (ne_of_none e na)]; exact e, fun b ps e => ⟨#[], by rw [upd_ne (ne_of_none e na), e]; simp⟩⟩ ok2 ag (fun _ z => nomatch z)
  have I3 : Inv X pins σ (upd H a (EX X.K xn a d)) { s' with heap := h3 } := by
    obtain ⟨a1, a2, a3, a4, a5⟩ := s'
    have e5 : a5 = sI.os := os
    subst e5
    exact I2
  exact ⟨I3.ok.suite _ _, I3.os, I3.bare, I3.base, I3.loc, I3.cell, I3.free, I3.freeC, fun p hp => I3.pin p (by rw [List.append_nil] at hp; exact hp), I3.hok, I3.len⟩
theorem suite_out {pn' : List (Addr × Obj)} (ok : X.Ok) (I : Inv (X.suite a (X.pn ++ pins)) pn' σ H s) : Inv X pins σ H s :=
  ⟨ok, I.os, I.bare, I.base, I.loc, I.cell, I.free, I.freeC, fun p hp => I.pin p (List.mem_append_left _ hp), I.hok, I.len⟩
end
/-- where the suite goes on -/
def outD (j : Option Nat) (D : Ends) : Ends := { nx := fun σ H => D.nx (match j with | some i => σ.set i none | none => σ) H, rt := D.rt, bk := fun σ H => D.bk (match j with | some i => σ.set i none | none => σ) H, ct := fun σ H => D.ct (match j with | some i => σ.set i none | none => σ) H }
def inS (j : Option Nat) (a : Addr) (σ : L2.St) : L2.St := match j with
  | some i => σ.set i (some (.ref a))
  | none => σ
/-- what the clause wishes of an exception of the body -/
def wF (K : PySem.W.Frag) (c : Value) (j : Option Nat) (ts : TS) (Wout : WX) (D : Ends) : WX := fun cls d σ H =>
  ∃ b, PySem.W.exmOne K cls c = some b ∧ (b = true → ∃ xn, cls = .ref (He.ga K xn) ∧ ∀ a, H a = none → ts (outD j D) (inS j a σ) (upd H a (EX K xn a d))) ∧ (b = false → Wout cls d σ H)
section
variable {X : Cx} {x n : Str} {c : Value} {i : Nat} {body suite : List Stmt} {b₀ : Stmt} {np pos pos' : Pos} {tb : WX → TS} {ts : TS} {Wout : WX}
/-- an end of the body is the statement's own -/
theorem body_end {pins pn' : List (Addr × Obj)} {xe : Value → Shared → Prop} {D : Ends} {f : Flow} {s1 : Shared} (ok : X.Ok) (h : SP (X.tr (X.pn ++ pins) xe) pn' D f s1) : SP X pins D f s1 := by
  cases f with
  | next => obtain ⟨σ', H', J, q⟩ := h; exact ⟨σ', H', J.ofTry ok, q⟩
  | brk => obtain ⟨σ', H', J, q⟩ := h; exact ⟨σ', H', J.ofTry ok, q⟩
  | cont => obtain ⟨σ', H', J, q⟩ := h; exact ⟨σ', H', J.ofTry ok, q⟩
  | ret u => obtain ⟨v, σ', H', J, r, q⟩ := h; exact ⟨v, σ', H', J.ofTry ok, r, q⟩
/-- the clause's class, looked up -/
theorem name_cls {S : Cx} {pn : List (Addr × Obj)} {σ : L2.St} {H : Hp} {s : Shared} {Q : Value → Shared → Prop} {E : Value → Shared → Prop} (hc : Names S x c) (I : Inv S pn σ H s) (q : Q c s) : wpAny (model S.prog S.w) S.A (eval (.Name x np) S.env) Q E s := by
  obtain ⟨hg, hd, hm | ⟨hm, hv, hn⟩⟩ := hc
  · exact ld_glob I hg hm q hd
  · exact ld_blt I hg hm hv q hn hd
theorem ps_tryF {nm : Option Str} {j : Option Nat} (hs : X.stack = X.env :: X.outer) (hf : X.env.frame = some X.env.locals) (hN : X.N.Nodup) (hj : match nm, j with | some n, some i => X.N[i]? = some n ∧ X.env.kindOf n = some .local | none, none => True | _, _ => False)
    (hc : Names X x c) (tk : L2N.Takes X Wout)
    (hb : ∀ (W : WX) (pn : List (Addr × Obj)) (xe : Value → Shared → Prop), L2N.Takes (X.tr pn xe) W → PassesOwn (model X.prog X.w) X.A X.env xe → PSs (X.tr pn xe) body (tb W))
    (hsu : ∀ (a : Addr) (pn : List (Addr × Obj)), PSs (X.suite a pn) (b₀ :: suite) ts) :
    PS X (.Try body [.ExceptHandler (some (.Name x np)) nm (b₀ :: suite) pos'] [] [] pos) (fun D σ H => tb (wF X.K c j ts Wout D) D σ H) := by
  refine ⟨fun pins s σ H D I h => ?_⟩
  have ok := I.ok
  have frA : X.A.frames = some (X.env :: X.outer) := by rw [ok.frames, hs]
  let hd1 : List ExceptHandler := [.ExceptHandler (some (.Name x np)) nm (b₀ :: suite) pos']
  let xe1 : Value → Shared → Prop := fun e s₁ => wpAny (model X.prog X.w) X.A (noteFrame e X.env) (fun _ s₂ => wpAny (model X.prog X.w) X.A (setFlight e none) (fun _ s₃ => wpAny (model X.prog X.w) X.A (handleBy e X.env hd1) (SP X pins D) X.xe s₃) X.xe s₂) X.xe s₁
  have tkB : L2N.Takes (X.tr (X.pn ++ pins) xe1) (wF X.K c j ts Wout D) := by
    rintro u s' ⟨a, B, sI, pins', σ', H', cls, d, rfl, J', nb, up, sky, na, os, ag, b, hb1, hyes, hno⟩
    have J : Inv X pins σ' H' sI := J'.ofTry ok
    show wpAny (model X.prog X.w) X.A (noteFrame (.ref a) X.env) _ _ _
    refine L2N.Sky.land L2N.Zn.steady frA hf (by rw [← hs]; exact sky) fun h3 fl3 up3 => ?_
    rw [← hs] at fl3
    have J3 : Inv X pins σ' H' { s' with heap := h3 } := J.landed nb fl3.1 (up.trans up3) os ag
    obtain ⟨oe, vs, he, hz, hdt⟩ := fl3.there
    obtain ⟨nf, fresh⟩ := fly_new nb fl3
    rw [hs] at nf
    have nL : a ≠ X.env.locals := fun z => nf (List.mem_filterMap.mpr ⟨X.env, List.mem_cons_self, by rw [hf, z]⟩)
    have nF : a ∉ X.fs := fun hm => by
      obtain ⟨e, h1, q⟩ := List.mem_filterMap.mp hm
      exact nf (List.mem_filterMap.mpr ⟨e, List.mem_cons_of_mem _ h1, q⟩)
    have S3 := J3.suite he hdt na nL nF
    refine wpAny_handleBy_cons (codeAny_handlers_test ?_) (by intro q; cases q)
    have LT : PySem.W.Looks (model X.prog X.w) h3 (typeOf (.ref a)) cls := fun A Q E s k q => wpAny_typeOf_ref (k _ _ he) (by rw [hz.1]; exact q)
    have LM := PySem.W.exm_one (M := model X.prog X.w) J3.kIn LT hb1
    refine name_cls (S := X.suite a ((a, oe) :: (X.pn ++ pins))) hc S3 (LM.here ?_)
    cases b with
    | true =>
      obtain ⟨xn, ec, hgo⟩ := hyes rfl
      subst ec
      -- the suite
      match nm, j, hj with
      | none, none, _ =>
        refine codeAny_handlers_suite (HandSPX.lands_againZ fl3 fun h4 fl4 up4 => ?_)
        have S4 := catch_inv hs J nb fl4 ((up.trans up3).trans up4) os ag na
        refine wpAny_mono ((hsu a (X.pn ++ pins)).run [] _ σ' _ (outD none D) S4 (hgo a na)) (fun f s6 q6 => ?_) (fun _ _ z => False.elim z)
        cases f with
        | ret u => obtain ⟨v6, σ6, H6, S6, r6, q6⟩ := q6; exact ⟨v6, σ6, H6, suite_out ok S6, r6, q6⟩
        | next => obtain ⟨σ6, H6, S6, q6⟩ := q6; exact ⟨σ6, H6, suite_out ok S6, q6⟩
        | brk => obtain ⟨σ6, H6, S6, q6⟩ := q6; exact ⟨σ6, H6, suite_out ok S6, q6⟩
        | cont => obtain ⟨σ6, H6, S6, q6⟩ := q6; exact ⟨σ6, H6, suite_out ok S6, q6⟩
      | some n, some i, ⟨hi, hln⟩ =>
        refine codeAny_handlers_suite_as (HandSPX.lands_againZ fl3 fun h4 fl4 up4 => ?_)
        have S4 := catch_inv hs J nb fl4 ((up.trans up3).trans up4) os ag na
        refine store_ok (X := X.suite a (X.pn ++ pins)) (v := .ref a) S4 hN hi (.inl hln) rfl (fun s5 S5 => ?_) (.inr hln)
        refine wpAny_mono ((hsu a (X.pn ++ pins)).run [] s5 _ _ (outD (some i) D) S5 (hgo a na)) (fun f s6 q6 => ?_) (fun _ _ z => False.elim z)
        have gone : ∀ {σ6 : L2.St} {H6 : Hp} {Q : Shared → Prop}, Inv (X.suite a (X.pn ++ pins)) [] σ6 H6 s6 → (∀ s7, Inv X pins (σ6.set i none) H6 s7 → Q s7) →
          wpAny (model X.prog X.w) X.A (do bindName X.env n .none; unbindBehindTheSuite X.env n pos') (fun _ s7 => Q s7) X.xe s6 := fun {σ6 H6 Q} S6 hq => gone_ok (suite_out ok S6) hN hi hln hq
        cases f with
        | ret u => obtain ⟨v6, σ6, H6, S6, r6, q6⟩ := q6; exact gone S6 fun s7 J7 => ⟨_, _, _, J7, r6, q6⟩
        | next => obtain ⟨σ6, H6, S6, q6⟩ := q6; exact gone S6 fun s7 J7 => ⟨_, _, J7, q6⟩
        | brk => obtain ⟨σ6, H6, S6, q6⟩ := q6; exact gone S6 fun s7 J7 => ⟨_, _, J7, q6⟩
        | cont => obtain ⟨σ6, H6, S6, q6⟩ := q6; exact gone S6 fun s7 J7 => ⟨_, _, J7, q6⟩
    | false =>
      -- it flies on
      show wpAny _ X.A (handleBy (.ref a) X.env []) _ _ _
      have fly := fl3
      rw [hs] at fly
      obtain ⟨_, _, _, oe, vs, T, oT, ts', he, _, hd, h1, _⟩ := id fly
      refine wpAny_handleBy_nil ?_
      unfold PySem.passOn
      refine wpAny_bind (wpAny_field he hd h1 ?_)
      rw [if_neg (show ¬ ((Value.ref T == Value.none) = true) from by simp)]
      have up2 : wpAny (model X.prog X.w) X.A (setFlight (.ref a) X.env.frame) (fun _ s4 => wpAny (model X.prog X.w) X.A (throw (.ref a) : Sem Flow) (SP X pins D) X.xe s4) X.xe { s' with heap := h3 } := by
        rw [hf]
        exact HandSPX.setFlight_upZ fly fun h4 hh4 up4 => wpAny_throw (tk _ _ ⟨a, B, sI, pins, σ', H', cls, d, rfl, J, nb, (up.trans up3).trans up4, .inr (.inr (by rw [hs]; exact hh4)), na, os, ag, hno rfl⟩)
      first
        | exact wpAny_bind (wpAny_pure (wpAny_bind up2))
        | exact wpAny_bind up2
  refine wpAny_Try_except (wpAny_mono ((hb _ _ xe1 tkB PassesOwn.looking).run [] s σ H D (I.toTry _) h) (fun f s1 q => ?_) fun e s1 he => he)
  have q2 := body_end ok q
  cases f with
  | next => exact wpAny_execs_nil q2
  | brk => exact q2
  | cont => exact q2
  | ret u => exact q2
end
end FW

set_option Elab.async false
set_option linter.all false
set_option maxRecDepth 100000
set_option maxHeartbeats 1000000
/-! raise of own classes: without an __init__ of their own; with one that stores its argument. -/
namespace FW
open PySem PySem.Spec PyProof.Rows L2
/-! ### what a class must say -/
def oexB (K : PySem.W.Frag) (C : Addr) : Bool := match K.lookup C with
  | some ⟨.type t, _, .cls cd, sl⟩ => (match cd.mro, sl.toList with
    | .ref C' :: bm, [_, _, _, _, some (.builtin n), _] => decide (t = "type") && (C' == C && (n == "ValueError.__new__" && (!cd.hasDel && (cd.hasDict && PySem.HandSPX.refsVE bm))))
    | _, _ => false)
  | _ => false
theorem oexB_ok {K : PySem.W.Frag} {C : Addr} (h : oexB K C = true) :
    ∃ nm q N bs bm sn sub ab col dd k0 k1 k2 k3 k5, K.lookup C = some (excClassObj nm q C N bs bm true sn sub ab col dd k0 k1 k2 k3 k5 "ValueError.__new__") ∧ PySem.HandSPX.refsVE bm = true := by
  unfold oexB at h
  split at h
  · rename_i t dd cd sl ho
    split at h
    · rename_i C' bm k0 k1 k2 k3 n k5 hm hs
      simp only [Bool.and_eq_true, Bool.not_eq_true', decide_eq_true_eq, beq_iff_eq] at h
      obtain ⟨rfl, rfl, rfl, hdel, hdict, hre⟩ := h
      obtain ⟨nm, bs, mro, ns, qn, hd, sn, sub, ab, col, del⟩ := cd
      dsimp only at hm hdel hdict
      subst hm hdel hdict
      have hsl : sl = #[k0, k1, k2, k3, some (.builtin "ValueError.__new__"), k5] := by
        obtain ⟨l⟩ := sl
        simp only at hs
        rw [hs]
      subst hsl
      exact ⟨nm, qn, ns, bs, bm, sn, sub, ab, col, dd, k0, k1, k2, k3, k5, ho, hre⟩
    · cases h
  · cases h
def iniB (K : PySem.W.Frag) (C : Addr) (f : Str) : Bool := oexB K C && (decide (PySem.W.findIn K (.ref C) "__setattr__" = some (some (.builtin "object.__setattr__"))) && (decide (PySem.W.subIn K (.ref C) (.type "BaseException") = some true) &&
  (decide (PySem.W.typeIn K (.ref C) = some (.type "type")) && (PySem.W.keepIn K (.ref C) && (decide (PySem.W.findIn K (.ref C) "__init__" = some (some (.ref (He.ma K C "__init__")))) &&
  (decide (PySem.W.typeIn K (.ref (He.ma K C "__init__")) = some (.type "function")) && decide (PySem.W.findIn K (.ref C) f = some none)))))))
structure IniC (K : PySem.W.Frag) (C : Addr) (f : Str) : Prop where
  T : OexC K C
  iC : PySem.W.findIn K (.ref C) "__init__" = some (some (.ref (He.ma K C "__init__")))
  tI : PySem.W.typeIn K (.ref (He.ma K C "__init__")) = some (.type "function")
  no : PySem.W.findIn K (.ref C) f = some none
theorem iniB_ok {K : PySem.W.Frag} {C : Addr} {f : Str} (h : iniB K C f = true) : IniC K C f := by
  unfold iniB at h
  simp only [Bool.and_eq_true, decide_eq_true_eq] at h
  obtain ⟨h1, h2, h3, h4, h5, h6, h7, h8⟩ := h
  exact ⟨⟨oexB_ok h1, h2, h3, h4, h5⟩, h6, h7, h8⟩
/-- the class over all of them -/
structure BaseC (K : PySem.W.Frag) (C : Addr) : Prop where
  g : PySem.W.specialIn K (.ref C) "__getattribute__" = some (some (.builtin "type.__getattribute__"))
  t : PySem.W.typeIn K (.ref C) = some (.type "type")
  r : PySem.W.readsIn K C (.type "type") = true
  v : PySem.W.findCls K (.ref C) (.type "type") "__init__" = some (.val (.builtin "ValueError.__init__"))
def baseB (K : PySem.W.Frag) (C : Addr) : Bool := decide (PySem.W.specialIn K (.ref C) "__getattribute__" = some (some (.builtin "type.__getattribute__"))) && (decide (PySem.W.typeIn K (.ref C) = some (.type "type")) && (PySem.W.readsIn K C (.type "type") &&
  (match PySem.W.findCls K (.ref C) (.type "type") "__init__" with
    | some (.val (.builtin b)) => decide (b = "ValueError.__init__")
    | _ => false)))
theorem baseB_ok {K : PySem.W.Frag} {C : Addr} (h : baseB K C = true) : BaseC K C := by
  unfold baseB at h
  simp only [Bool.and_eq_true, decide_eq_true_eq] at h
  obtain ⟨h1, h2, h3, h4⟩ := h
  refine ⟨h1, h2, h3, ?_⟩
  split at h4
  · rename_i e
    rw [e, of_decide_eq_true h4]
  · cases h4
/-! ### __init__ -/
/-- the name at a place of the def's -/
def nmB (N : List Str) (sc : Scope) (i : Nat) (e : Expr) : Bool := match dName e with
  | some x => decide (N[i]? = some x) && (visB sc x && plainB x)
  | none => false
/-- FocusError.__init__(self, "..") -/
def supB (N : List Str) (sc : Scope) : Stmt → Bool
  | .Expr (.Call (.Attribute (.Name x p1) m p2) [a, .Constant (.str _) _ _] [] pos) _ => decide (x = "FocusError") && (decide (m = "__init__") && (gloB sc x && (plainB x && (nmB N sc 0 a && (noStar a && (p2.endLine == pos.line))))))
  | _ => false
/-- self.f = y -/
def stoB (N : List Str) (sc : Scope) (f : Str) : Stmt → Bool
  | .Assign [.Attribute o g _] v _ => decide (f = g) && (nmB N sc 0 o && nmB N sc 1 v)
  | _ => false
def bodyB (N : List Str) (sc : Scope) (f : Str) : List Stmt → Bool
  | [a, b] => supB N sc a && stoB N sc f b
  | _ => false
def spIni (C : Addr) (f : Str) : Sp := fun vs H Q _ => ∃ a y, vs = [.ref a, y] ∧ H a = some (exo a C none) ∧ ∀ dx, H dx = none → dx ≠ a → Q .non (upd (upd H dx (exd dx [(f, y)])) a (exo a C (some dx)))
/-- a method call's tree -/
theorem meth_eq {o : Expr} {m : Str} {apos pos : Pos} {args : List Expr} {env : PySem.Env} (hbase : attributeBase o m env (eval o env) = eval o env) (hs : args.all noStar = true) (hn : args.length < 30) (hline : (apos.endLine == pos.line) = true) :
    eval (.Call (.Attribute o m apos) args [] pos) env = (do
      let ov ← eval o env
      standAt apos.atName
      let (f, first) ← holding [ov] (getMethod ov m (do return (← importBound o env).getD true))
      callWith pos f first (backTo pos (starEach args env)) (backToKw pos (keywordEach [] env))) := by
  have hform : methodCallForm (args.length + ([] : List Keyword).length) (backTo pos (starEach args env)) (backToKw pos (keywordEach [] env)) = true := by
    unfold methodCallForm
    rw [Bool.and_eq_true, Bool.and_eq_true]
    exact ⟨⟨starsAll hs, rfl⟩, decide_eq_true (show args.length + 0 + 0 < 30 by omega)⟩
  have hpos : methodCallPos true o env apos pos = pure pos := by unfold methodCallPos; simp [hline]
  rw [arm_eval_Call, hbase]
  unfold methodCall
  rw [hform]
  unfold calleeOf
  simp only [if_true, hpos, pure_bind]
section
variable {X : Cx} {pos : Pos}
theorem nm_pe {N : List Str} {sc : Scope} {i : Nat} {e : Expr} (hN : X.N = N) (hs : X.env.scope = sc) (h : nmB N sc i e = true) : PE X e (tVar i) ∧ isLc e = false ∧ noStar e = true := by
  unfold nmB at h
  split at h
  · rename_i x q
    obtain ⟨p, rfl⟩ := dName_eq q
    simp only [Bool.and_eq_true, decide_eq_true_eq] at h
    obtain ⟨h1, h2, h3⟩ := h
    obtain ⟨d1, d2, _⟩ := plainB_ok h3
    exact ⟨pe_var (i := i) (by rw [hN]; exact h1) (by rw [hs]; exact visB_ok h2) d1 d2, rfl, rfl⟩
  · cases h
theorem ini_fn {CX : CXT} {P : Program} {w : World} {K : PySem.W.Frag} {mg : Str → Option Value} {base : Heap} {x qual : Str} {params : Arguments} {body : List Stmt} {scope : Scope} {fI C : Addr} {fd : FuncData} {n0 n1 f : Str}
    (F : FunD K x qual params body scope [] [] fI fd) (S : FnScope [n0, n1] [n0, n1] scope) (hm : mg "FocusError" = some (.ref (He.ga K "FocusError"))) (B : BaseC K (He.ga K "FocusError")) (T : IniC K C f) (h : bodyB [n0, n1] scope f body = true) :
    FnOk P w K mg base CX 1 fI fd [n0, n1] (spIni C f) := by
  refine F.ok S (fun vs H Q E h => ?_) fun cdv A outer s H vs Q E hr hsp => ?_
  · obtain ⟨a, y, rfl, _⟩ := h; rfl
  · obtain ⟨a, y, rfl, ea, hq⟩ := hsp
    unfold bodyB at h
    split at h
    · rename_i s1 s2
      rw [Bool.and_eq_true] at h
      obtain ⟨ha, hb⟩ := h
      unfold supB at ha
      split at ha
      · rename_i z p1 m p2 e0 c j p3 cpos q
        simp only [Bool.and_eq_true, decide_eq_true_eq] at ha
        obtain ⟨e1, e2, g1, g2, g3, g4, g5⟩ := ha
        subst e1 e2
        obtain ⟨d1, _, _⟩ := plainB_ok g2
        unfold stoB at hb
        split at hb
        · rename_i o g p5 v p6
          simp only [Bool.and_eq_true, decide_eq_true_eq] at hb
          obtain ⟨k1, k2, k3⟩ := hb
          subst k1
          have pa : PA (cxOf CX P w K mg base [n0, n1] qual scope fI cdv A outer s H E) [e0, .Constant (.str c) j p3] (tCons (tVar 0) (tCons (tC (.str c)) tNil)) := pa_cons (nm_pe rfl rfl g3).1 (pa_cons pe_str pa_nil) (noStar_each g4 _ _)
          obtain ⟨k4, k5, _⟩ := nm_pe (X := cxOf CX P w K mg base [n0, n1] qual scope fI cdv A outer s H E) rfl rfl k3
          refine ⟨_, pss_cons (ps_expr (pe_owninit (X := cxOf CX P w K mg base [n0, n1] qual scope fI cdv A outer s H E) (gloB_ok g1) hm B.g B.t B.r B.v pa d1 (meth_eq rfl (by rw [List.all_cons, g4]; rfl) (by simp) g5) (noStar_each g4 _ _) rfl) rfl) (pss_one (ps_ost (nm_pe rfl rfl k2).1 k4 (isLc_swap k5 _ _ _))), ?_⟩
          · refine ⟨.ref a, rfl, a, C, [.str c], rfl, by simp, T.T, ea, y, rfl, .ref a, rfl, a, C, rfl, T.T, T.no, .inl ⟨ea, fun dx n ne => hq dx n ne⟩⟩
        · cases hb
      · cases ha
    · cases h
end
/-! ### the class called -/
section
variable {X : Cx} {CX : CXT} {x f : Str} {e : Expr} {te : TE} {p pos : Pos} {C fI : Addr} {k : Nat} {fd : FuncData} {ps : List Str}
/-- C(e): C's __init__ stores it -/
theorem pmk_ini (T : IniC X.K C f) (F : FnOk X.prog X.w X.K X.mg X.base CX k (He.ma X.K C "__init__") fd ps (spIni C f)) (hr : Room (k + 1) X.A) (hb : Binds X.K fd ps []) (hx : Passes CX X (fun _ _ _ => False)) (hg : Gl X x) (hm : X.mg x = some (.ref C)) (he : PE X e te)
    (hst : noStar e = true) (hdb : (x == ("__debug__" : Str)) = false) :
    L2N.PMk X (.Call (.Name x p) [e] [] pos) (fun σ H Q => te σ H fun y H1 => ∀ d, H1 d = none → Q (.ref C) (some d) (upd H1 d (.xd [(f, y)]))) := by
  intro pins s σ H Q I h
  obtain ⟨nm, q, N, bs, bm, sn, sub, ab, col, dd, k0, k1, k2, k3, k5, hC, hbm⟩ := T.T.cls
  have st := noStar_each hst [] X.env
  refine wpAny_Call_Name_kw (ld_glob I hg hm ?_ hdb)
  refine PySem.W.callWith_K (h₀ := X.base) I.ok.mod.kin T.T.kC ?_ st rfl
  rw [st]
  show wpAny _ _ (spliced ((false, eval e X.env) :: backTo pos (starEach [] X.env))) _ _ s
  refine Calls.spliced_cons (thn (he.run pins s σ H _ I h) fun u s1 ⟨y, H1, I1, r1, q1⟩ => Calls.spliced_nil ⟨I1.kIn, ?_⟩)
  show wpAny _ _ (call (.ref C) [u]) _ _ _
  obtain ⟨hp, g, dr, tk, os⟩ := s1
  -- the new object, its arguments
  have grow : hp.objs.size ≤ hp.objs.size + 1 := Nat.le_succ _
  have na : H1 (hp.objs.size + 1) = none := I1.hok.fresh grow
  have keeps : ∀ b o, hp.get? b = some o → ((hp.push (PySem.W.kdv_tup [u])).push (PySem.HandSPX.excO C hp.objs.size)).get? b = some o := fun b o z => Heap.get?_push_of_some _ (Heap.get?_push_of_some _ z)
  have there : ((hp.push (PySem.W.kdv_tup [u])).push (PySem.HandSPX.excO C hp.objs.size)).get? (hp.objs.size + 1) = some (PySem.HandSPX.excO C hp.objs.size) := by heap_get
  have I2 := I1.laid (t' := tk) (a := hp.objs.size + 1) (o := exo (hp.objs.size + 1) C none) keeps grow (exo_ok there)
  have args : Vals [V.ref (hp.objs.size + 1), y] [Value.ref (hp.objs.size + 1), u] := .cons rfl (.cons r1 .nil)
  have want : spIni C f [V.ref (hp.objs.size + 1), y] (upd H1 (hp.objs.size + 1) (exo (hp.objs.size + 1) C none)) (fun v H2 => v = .non ∧ ∃ dx, H1 dx = none ∧ dx ≠ hp.objs.size + 1 ∧ H2 = upd (upd (upd H1 (hp.objs.size + 1) (exo (hp.objs.size + 1) C none)) dx (exd dx [(f, y)])) (hp.objs.size + 1) (exo (hp.objs.size + 1) C (some dx))) (fun _ _ _ => False) :=
    ⟨_, y, rfl, upd_same, fun dx n ne => ⟨rfl, dx, by rw [upd_ne ne] at n; exact n, ne, rfl⟩⟩
  have len : ([Value.ref (hp.objs.size + 1), u] ++ []).length = ps.length := by rw [← F.len _ _ _ _ want]; rfl
  have bnd := hb _ [Value.ref (hp.objs.size + 1), u] I2.kIn len
  rw [List.append_nil] at bnd
  refine wpAny_call (PySem.HandSPX.call_own PySem.F.excBase_ValueError (fun Y => PySem.HandSPX.refsVE_contains Y bm hbm) (I1.kIn _ _ hC) (PySem.W.looks_findIn I1.kIn T.iC) (fun self => PySem.W.bind_fn I1.kIn self T.tI) (by rw [sizeLine_eq]; simp)
    (codeAny_mono (F.run _ X.stack _ _ ⟨[Value.ref (hp.objs.size + 1), u], []⟩ _ _ _ _ (hr.make C [u] []) (I2.env0.make C [u] []) bnd args want) fun r s' hq => ?_))
  cases r with
  | error er => exact hx pins σ _ _ er s' I2 hq
  | ok fl =>
    cases fl with
    | ret w =>
      obtain ⟨v, H2, os2, bare2, un2, hok2, rv, ev, dx, ndx, ned, eH⟩ := hq
      subst ev
      obtain ⟨h2, g2, d2, t2, os'⟩ := s'
      have ea : H2 (hp.objs.size + 1) = some (exo (hp.objs.size + 1) C (some dx)) := by rw [eH, upd_same]
      have ed : H2 dx = some (exd dx [(f, y)]) := by rw [eH, upd_ne ned, upd_same]
      obtain ⟨t0, G, J, kG, ge, hoe, nn⟩ := mk_end0 (d2 := d2) (t2 := t2) I1 grow keeps un2 hok2 os2 bare2 ea ed ndx
      have eF : upd (del H2 (hp.objs.size + 1)) dx (.xd [(f, y)]) = upd H1 dx (.xd [(f, y)]) := by
        funext b
        by_cases h1 : b = dx
        · rw [h1, upd_same, upd_same]
        · rw [upd_ne h1, upd_ne h1]
          by_cases h3 : b = hp.objs.size + 1
          · rw [h3, del_same, na]
          · rw [del_ne h3, eH, upd_ne h3, upd_ne h1, upd_ne h3]
      rw [eF] at J nn
      exact ⟨rv, _, _, _, ⟨G, g2, d2, t2, os'⟩, _, .ref C, some dx, rfl, J, kG, ge, hoe, ⟨rfl, rfl, fun vs hv => by cases hv; rfl⟩, rfl, rfl, nn, rfl, bare2, raises_own T.T.exC T.T.tyC, q1 dx ndx⟩
    | next => exact False.elim hq
    | brk => exact False.elim hq
    | cont => exact False.elim hq
end
end FW

set_option Elab.async false
set_option linter.all false
set_option maxRecDepth 100000
set_option maxHeartbeats 1000000
/-! exceptions as values: their class asked, their field read. -/
namespace FW
open PySem PySem.Spec PyProof.Rows L2
/-- a class that is asked for -/
def clsU (K : PySem.W.Frag) (x : Str) : Value := if x = ("ValueError" : Str) then .type "ValueError" else .ref (He.ga K x)
def clsW (K : PySem.W.Frag) (x : Str) : V := if x = ("ValueError" : Str) then .ty "ValueError" else .ref (He.ga K x)
theorem cls_rel {K : PySem.W.Frag} {x : Str} {u : Value} (h : RelV (clsW K x) u) : u = clsU K x := by
  unfold clsW at h
  unfold clsU
  split at h
  · rw [if_pos (by assumption)]; exact h
  · rw [if_neg (by assumption)]; exact h
def kitsB (K : PySem.W.Frag) (cs : List Str) : Bool := (("ValueError" : Str) :: cs).all fun x => (cs.all fun c => decide (PySem.W.kitOne K (.ref (He.ga K c)) (clsU K x) = some (isSub c x))) && (decide (PySem.W.kitOne K (.type "NoneType") (clsU K x) = some false) &&
  (decide (PySem.W.kitOne K (.type "tuple") (clsU K x) = some false) && decide (PySem.W.kitOne K (.type "list") (clsU K x) = some false)))
structure Kits (K : PySem.W.Frag) (cs : List Str) : Prop where
  ex : ∀ c ∈ cs, ∀ x ∈ (("ValueError" : Str) :: cs), PySem.W.kitOne K (.ref (He.ga K c)) (clsU K x) = some (isSub c x)
  no : ∀ x ∈ (("ValueError" : Str) :: cs), ∀ T, T = "NoneType" ∨ T = "tuple" ∨ T = "list" → PySem.W.kitOne K (.type T) (clsU K x) = some false
theorem kitsB_ok {K : PySem.W.Frag} {cs : List Str} (h : kitsB K cs = true) : Kits K cs := by
  unfold kitsB at h
  simp only [List.all_eq_true, Bool.and_eq_true, decide_eq_true_eq] at h
  refine ⟨fun c hc x hx => (h x hx).1 c hc, fun x hx T hT => ?_⟩
  obtain ⟨_, h1, h2, h3⟩ := h x hx
  rcases hT with rfl | rfl | rfl
  · exact h1
  · exact h2
  · exact h3
def xcB (K : PySem.W.Frag) (C : Addr) : Bool := xfB K C && (decide (PySem.W.findIn K (.ref C) "__class__" = some (some (.builtin "object.__class__"))) && (decide (PySem.W.specialIn K (.builtin "object.__class__") "__get__" = some (some (.builtin "getset_descriptor.__get__"))) &&
  (decide (PySem.W.takesIn K (.builtin "object.__class__") = some true) && (decide (PySem.W.mroIn K C (.type "object") = some true) && (PySem.W.clsIn K C).isSome))))
structure XC (K : PySem.W.Frag) (C : Addr) : Prop where
  f : XfC K C
  ha : PySem.W.findIn K (.ref C) "__class__" = some (some (.builtin "object.__class__"))
  hn : PySem.W.specialIn K (.builtin "object.__class__") "__get__" = some (some (.builtin "getset_descriptor.__get__"))
  ht : PySem.W.takesIn K (.builtin "object.__class__") = some true
  hm : PySem.W.mroIn K C (.type "object") = some true
  hc : (PySem.W.clsIn K C).isSome = true
theorem xcB_ok {K : PySem.W.Frag} {C : Addr} (h : xcB K C = true) : XC K C := by
  unfold xcB at h
  simp only [Bool.and_eq_true, decide_eq_true_eq] at h
  obtain ⟨h1, h2, h3, h4, h5, h6⟩ := h
  exact ⟨xfB_ok h1, h2, h3, h4, h5, h6⟩
/-- the value is of the class, or under it -/
def isB (v : Val) (x : Str) : Bool := match v with
  | .exn c _ _ => isSub c x
  | _ => false
section
variable {X : Cx} {ca : Nat → Addr} {pins : List (Addr × Obj)} {σ : L2.St} {H : Hp} {s : Shared} {S : Sto} {cs xs : List Str} {v : Val} {y : V} {u : Value} {P : Bool → Prop}
theorem ex_inst {c : Str} {a : Addr} {d : Option Addr} {t : List (Str × V)} (I : Inv X pins σ H s) (e : H a = some (EX X.K c a d)) (hd : ∀ dd, d = some dd → H dd = some (.xd t)) :
    ∃ oe od, PySem.W.InstAt s.heap a oe (He.ga X.K c) od ∧ match d, od with | none, none => True | some dd, some o => s.heap.get? dd = some o | _, _ => False := by
  have x : ObjOk X.prog X.w H s.heap a (.ext _) := I.hok a _ e
  obtain ⟨⟨oe, vs, he, hz, hdt, _⟩, _⟩ := x
  have no : PySem.W.notCls oe = true := by unfold PySem.W.notCls; rw [hdt] <;> rfl
  cases d with
  | none => exact ⟨oe, none, ⟨he, hz.1, no, by rw [hz.2]; trivial⟩, trivial⟩
  | some dd =>
    have z : ObjOk X.prog X.w H s.heap dd (.xd t) := I.hok dd _ (hd dd rfl)
    obtain ⟨mA, ⟨o, es, ep, ho, _⟩, _⟩ := z
    exact ⟨oe, some o, ⟨he, hz.1, no, by rw [hz.2]; exact ho⟩, ho⟩
theorem isx_kit (hx : ∀ c ∈ cs, XC X.K (He.ga X.K c)) (kt : Kits X.K cs) (hxs : ∀ x ∈ xs, x ∈ (("ValueError" : Str) :: cs)) (I : Inv X pins σ H s) (rs : RS X.K ca H S) (rv : RV X.K H v y) (ru : RelV y u) (hm : semIsx cs xs v S P) :
    ∃ t Φ, PySem.W.KitX X.K u t Φ ∧ Φ s.heap ∧ (∀ x ∈ xs, PySem.W.kitOne X.K t (clsU X.K x) = some (isB v x)) ∧ P (xs.any (isB v)) ∧ u ≠ .builtin "__main__.__loader__#opaque" := by
  have none_ : ∀ {w : Val}, (∀ x, isB w x = false) → ∀ l : List Str, l.any (isB w) = false := fun {w} h l => by
    induction l with
    | nil => rfl
    | cons a l ih => rw [List.any_cons, h, ih]; rfl
  unfold semIsx at hm
  cases rv with
  | non =>
    obtain rfl : u = Value.none := ru
    exact ⟨_, _, PySem.W.kitx_none, True.intro, fun x h => kt.no x (hxs x h) _ (.inl rfl), by rw [none_ fun _ => rfl]; exact hm, fun z => nomatch z⟩
  | tup e q =>
    obtain rfl : u = Value.ref _ := ru
    obtain ⟨_, _, _, o, h1, h2, _⟩ := (show ObjOk X.prog X.w H s.heap _ (.tup _) from I.hok _ _ e)
    exact ⟨_, _, PySem.W.kitx_tuple, ⟨o, h1, h2⟩, fun x h => kt.no x (hxs x h) _ (.inr (.inl rfl)), by rw [none_ fun _ => rfl]; exact hm, fun z => nomatch z⟩
  | ref a =>
    obtain rfl : u = Value.ref _ := ru
    simp only at hm
    split at hm
    · rename_i e
      obtain ⟨ys, h, _⟩ := rs a _ e
      obtain ⟨_, its, n, _, h1⟩ := (show ObjOk X.prog X.w H s.heap a (.lst ys) from I.hok a _ h)
      exact ⟨_, _, PySem.W.kitx_list, ⟨_, h1, rfl⟩, fun x h => kt.no x (hxs x h) _ (.inr (.inr rfl)), by rw [none_ fun _ => rfl]; exact hm, fun z => nomatch z⟩
    · exact hm.elim
  | @exn0 c a e =>
    obtain rfl : u = Value.ref _ := ru
    obtain ⟨hc, p⟩ := hm
    have C := hx c hc
    obtain ⟨oe, od, J, _⟩ := ex_inst (t := []) I e fun _ z => nomatch z
    exact ⟨_, _, PySem.W.kitx_exc C.hc C.f.ga C.f.gg C.f.exC C.ha C.hn C.ht C.hm, J, fun x h => kt.ex c hc x (hxs x h), p, fun z => nomatch z⟩
  | @exn1 c f w a d y0 n e ed q =>
    obtain rfl : u = Value.ref _ := ru
    obtain ⟨hc, p⟩ := hm
    have C := hx c hc
    obtain ⟨oe, od, J, _⟩ := ex_inst (t := [(f, y0)]) I e fun _ z => by cases z; exact ed
    exact ⟨_, _, PySem.W.kitx_exc C.hc C.f.ga C.f.gg C.f.exC C.ha C.hn C.ht C.hm, J, fun x h => kt.ex c hc x (hxs x h), p, fun z => nomatch z⟩
  | _ => exact hm.elim
theorem kit_any {K : PySem.W.Frag} {t : Value} {p : Str → Bool} : ∀ {xs : List Str}, (∀ x ∈ xs, PySem.W.kitOne K t (clsU K x) = some (p x)) → PySem.W.kitAny K t (xs.map (clsU K)) = some (xs.any p)
  | [], _ => rfl
  | x :: xs, h => by
    rw [List.map_cons, List.any_cons]
    unfold PySem.W.kitAny
    rw [h x List.mem_cons_self]
    cases p x with
    | true => rfl
    | false =>
      simp only [Bool.false_or]
      exact kit_any fun z hz => h z (List.mem_cons_of_mem _ hz)
theorem cls_rels {K : PySem.W.Frag} : ∀ {xs : List Str} {us : List Value}, Vals (xs.map (clsW K)) us → us = xs.map (clsU K)
  | [], _, .nil => rfl
  | x :: xs, _, .cons h r => by rw [List.map_cons, cls_rel h, cls_rels r]
def RIsx (K : PySem.W.Frag) (ca : Nat → Addr) (cs xs : List Str) : List V → Hp → VK → Prop := fun zs H Q => ∃ S v y w P, zs = [y, w] ∧ RS K ca H S ∧ RV K H v y ∧ semIsx cs xs v S (fun b => P (.bl b) S) ∧ FinP K ca S H P Q ∧
  ((∃ x, xs = [x] ∧ w = clsW K x) ∨ ∃ tp, w = .ref tp ∧ H tp = some (.tup (xs.map (clsW K))))
theorem snd_isx (hx : ∀ c ∈ cs, XC X.K (He.ga X.K c)) (kt : Kits X.K cs) (hxs : ∀ x ∈ xs, x ∈ (("ValueError" : Str) :: cs)) : CallR X (.builtin "isinstance") (RIsx X.K ca cs xs) := by
  rintro pins s σ H zs us Q I r ⟨S, v, y, w, P, rfl, rs, rv, hm, f, hw⟩
  cases r with
  | cons r1 rr =>
    cases rr with
    | cons r2 rr =>
      cases rr
      obtain ⟨t, Φ, Z, p, hk, hp, nb⟩ := isx_kit hx kt hxs I rs rv r1 hm
      have fin : ∀ tk, EP X pins σ Q (.bool (xs.any (isB v))) { s with toks := tk } := fun tk => ⟨.bl _, H, I.kept (t' := tk) fun _ _ z => z, rfl, f.val rs hp (.bl _)⟩
      rcases hw with ⟨x, rfl, rfl⟩ | ⟨tp, rfl, et⟩
      · have e := cls_rel r2
        subst e
        have k1 := hk x List.mem_cons_self
        have an : [x].any (isB v) = isB v x := by rw [List.any_cons]; exact Bool.or_false _
        rw [an] at fin
        exact PySem.W.kia_one Z I.kIn p k1 nb fin
      · cases r2
        obtain ⟨_, its, vals, o, h1, h2, h3⟩ := (show ObjOk X.prog X.w H s.heap tp (.tup (xs.map (clsW X.K))) from I.hok tp _ et)
        obtain ⟨n, h3⟩ := h3
        obtain ⟨oc, od, dt, osl⟩ := o
        dsimp only at h2 h3
        subst h2 h3
        have ei := cls_rels vals
        subst ei
        exact PySem.W.kia_tup Z I.kIn p h1 (kit_any hk) nb fin
/-- e.f of an exception -/
theorem pe_xfld {e : Expr} {te : TE} {f : Str} {pos : Pos} (he : PE X e te) (hb : attributeBase e f X.env (eval e X.env) = eval e X.env) :
    PE X (.Attribute e f pos) (fun σ H Q => te σ H fun x H1 => ∃ a c d w, x = .ref a ∧ H1 a = some (EX X.K c a (some d)) ∧ H1 d = some (.xd [(f, w)]) ∧ XfC X.K (He.ga X.K c) ∧ PySem.W.findIn X.K (.ref (He.ga X.K c)) f = some none ∧ Q w H1) := by
  refine ⟨fun pins s σ H Q I h => ?_⟩
  refine attr_of hb (thn (he.run pins s σ H _ I h) fun u s1 ⟨x, H1, I1, rx, a, c, d, w, ex, ea, ed, T, no, q⟩ => ?_)
  subst ex
  obtain rfl : u = Value.ref a := rx
  obtain ⟨oe, od, J, m⟩ := ex_inst (t := [(f, w)]) I1 ea fun _ z => by cases z; exact ed
  obtain ⟨mA, ns, rel⟩ := (show ObjOk X.prog X.w H1 s1.heap d (.xd [(f, w)]) from I1.hok d _ ed)
  obtain ⟨o, ho, hl⟩ := lookIn_ns ns
  cases od with
  | none => exact m.elim
  | some o2 =>
    have eo : o2 = o := Option.some.inj (m.symm.trans ho)
    subst eo
    have lf : ([(f, w)] : List (Str × V)).lookup f = some w := by simp [List.lookup]
    obtain ⟨u, hu, ru⟩ := RelO.some_of (v := w) (o := mA f) (by rw [← lf]; exact rel f)
    exact HandSPX.exc_get I1.kIn J T.ga T.gg T.exC (PySem.W.findObj_own T.hdC no rfl (by rw [hl, hu])) (handed_of ru) ⟨w, H1, I1.tok _, ru, q⟩
end
end FW

set_option Elab.async false
set_option linter.all false
set_option maxRecDepth 100000
set_option maxHeartbeats 1000000
/-! own classes: made, their methods called, what these let out told by the slots. -/
namespace FW
open PySem PySem.Spec PyProof.Rows L2
section
variable {X : Cx} {CX : CXT} {k : Nat} {f C : Addr} {fd : FuncData} {ps : List Str} {sp : Sp} {E : L2.St → XK} {x m : Str} {p pos apos : Pos} {o : Expr} {es : List Expr} {to : TE} {ta : TA}
/-- the written arguments, if any, then the call -/
theorem args_run {pins : List (Addr × Obj)} {σ : L2.St} {H : Hp} {s : Shared} {fv : Value} {first : List Value} {Q : List V → Hp → Prop} {R : Value → Shared → Prop} (kp : PySem.W.keepIn X.K fv = true) (hs : es.all noStar = true) (ha : PA X es ta) (h0 : es = [] → ∀ σ H Q, ta σ H Q → Q [] H) (I : Inv X pins σ H s) (h : ta σ H Q)
    (go : ∀ us s1 vs H1, Inv X pins σ H1 s1 → Vals vs us → Q vs H1 → wpAny (model X.prog X.w) X.A (call fv (first ++ us)) R X.xe s1) :
    wpAny (model X.prog X.w) X.A (callWith pos fv first (backTo pos (starEach es X.env)) (backToKw pos (keywordEach [] X.env))) R X.xe s := by
  cases es with
  | nil => exact PySem.W.callWith_K0 I.kIn kp (go [] s [] H I .nil (h0 rfl _ _ _ h))
  | cons e es =>
    rw [List.all_cons, Bool.and_eq_true] at hs
    exact PySem.W.callWith_K (first := first) (h₀ := X.base) I.ok.mod.kin kp (thn (ha.run pos pins s σ H Q I h) fun us s1 ⟨vs, H1, I1, r, q⟩ => ⟨I1.kIn, go us s1 vs H1 I1 r q⟩) (noStar_each hs.1 _ _) (starsAny hs.2)
/-- o.m(..) -/
theorem pe_methS (he : PE X o to) (c : Cls X.K C) (hm : Meth X.K C m f) (F : FnOk X.prog X.w X.K X.mg X.base CX k f fd ps sp) (hr : Room k X.A) (hb : Binds X.K fd ps []) (hx : ∀ σ, PassesAt CX X σ (E σ)) (ha : PA X es ta) (h0 : es = [] → ∀ σ H Q, ta σ H Q → Q [] H) (hs : es.all noStar = true) (hn : es.length < 30)
    (hbase : attributeBase o m X.env (eval o X.env) = eval o X.env) (hline : (apos.endLine == pos.line) = true) :
    PE X (.Call (.Attribute o m apos) es [] pos) (fun σ H Q => to σ H fun x H1 => ∃ a dx t, x = .ref a ∧ H1 a = some (.ins C dx t) ∧ t.lookup m = none ∧ ta σ H1 fun vs H2 => sp (x :: vs) H2 Q (E σ)) := by
  refine ⟨fun pins s σ H Q I h => ?_⟩
  refine PySem.W.methodCall_KW (thn (he.run pins s σ H _ I h) fun u s1 ⟨x, H1, I1, rx, a, dx, t, ex, ea, l, q⟩ => ?_) (meth_eq hbase hs hn hline)
  subst ex
  obtain rfl : u = Value.ref a := rx
  refine getmeth_ok I1 ea c hm l (args_run hm.kp hs ha h0 I1 q fun us s2 vs H2 I2 r q2 => ?_)
  exact run_fnS (E := E) (us := .ref a :: us) (vs := .ref a :: vs) F hr hb (hx σ) I2 (.cons rfl r) q2
/-- C(..): a new instance, then __init__ -/
theorem pe_makeS (M : Mk X.K C f) (F : FnOk X.prog X.w X.K X.mg X.base CX k f fd ps sp) (hr : Room (k + 1) X.A) (hg : Gl X x) (hm : X.mg x = some (.ref C)) (hb : Binds X.K fd ps []) (hx : ∀ σ, PassesAt CX X σ (E σ)) (ha : PA X es ta) (h0 : es = [] → ∀ σ H Q, ta σ H Q → Q [] H) (hs : es.all noStar = true)
    (hdb : (x == ("__debug__" : Str)) = false) :
    PE X (.Call (.Name x p) es [] pos) (fun σ H Q => ta σ H fun vs H1 => ∀ a dx, H1 a = none → H1 dx = none → dx ≠ a → sp (.ref a :: vs) (upd (upd H1 dx (.own a)) a (.ins C dx [])) (fun v H2 => v = .non ∧ Q (.ref a) H2) (E σ)) := by
  refine ⟨fun pins s σ H Q I h => ?_⟩
  refine wpAny_Call_Name_kw (ld_glob I hg hm (args_run M.kp hs ha h0 I h fun us s1 vs H1 I1 r q => ?_) hdb)
  show wpAny _ _ (call (.ref C) us) _ _ _
  have want := q (s1.heap.objs.size + 1) s1.heap.objs.size (I1.hok.fresh (Nat.le_succ _)) (I1.hok.fresh (Nat.le_refl _)) (Nat.ne_of_lt (Nat.lt_succ_self _))
  have I2 := Inv.made (C := C) I1
  have args : Vals (V.ref (s1.heap.objs.size + 1) :: vs) (Value.ref (s1.heap.objs.size + 1) :: us) := .cons rfl r
  have len : (Value.ref (s1.heap.objs.size + 1) :: us ++ []).length = ps.length := by rw [List.append_nil, ← args.length]; exact F.len _ _ _ _ want
  have bnd := hb _ (Value.ref (s1.heap.objs.size + 1) :: us) I2.kIn len
  rw [List.append_nil] at bnd
  refine wpAny_call (make_map (f := f) I1.kIn M.makes M.init (beq_iff_eq.mp M.fn) (codeAny_mono (F.run _ X.stack _ _ _ _ _ _ (E σ) (hr.make C us []) (I2.env0.make C us []) bnd args want) fun r s' hq => ?_))
  cases r with
  | error e => exact hx σ pins _ _ e s' I2 hq
  | ok fl =>
    cases fl with
    | ret w =>
      obtain ⟨v, H', I3, rv, ev, q3⟩ := I2.after hq
      subst ev
      exact ⟨rv, V.ref (s1.heap.objs.size + 1), H', I3, rfl, q3⟩
    | next => exact False.elim hq
    | brk => exact False.elim hq
    | cont => exact False.elim hq
end
end FW

set_option Elab.async false
set_option linter.all false
set_option maxRecDepth 100000
/-! What chkE accepts keeps the promise of ev. -/
namespace FW
open PySem PySem.Spec PyProof.Rows L2
def spF (K : PySem.W.Frag) (ca : Nat → Addr) (C : CallSem) (f : Nat) : Sp := fun vs H Q E => ∃ S args P xp, RS K ca H S ∧ RVs K H args vs ∧ C f args S P xp ∧ FinP K ca S H P Q ∧ ∀ x S', xp x S' → ∀ H' cls d, Step S H S' H' → RS K ca H' S' → ExAt K H' x cls d → E cls d H'
def W0 : WX := fun _ _ _ _ => False
theorem takes0N {X : Cx} : L2N.Takes X W0 := fun _ _ x => by
  obtain ⟨_, _, _, _, _, _, _, _, _, _, _, _, _, _, _, _, z⟩ := x
  exact z.elim
/-- what the classes of exceptions say -/
structure ExnOk (P : Program) (w : World) (K : PySem.W.Frag) (mg : Str → Option Value) (base : Heap) (G : Glo) : Prop where
  kits : Kits K G.exs
  xc : ∀ c ∈ G.exs, XC K (He.ga K c)
  at_ : ∀ c ∈ G.exs, mg c = some (.ref (He.ga K c))
  exm : ∀ c ∈ G.exs, ∀ x ∈ G.exs, PySem.W.exmOne K (.ref (He.ga K c)) (.ref (He.ga K x)) = some (isSub c x)
  r0 : ∀ c, G.exc.lookup c = some Str.empty → (He.Fa.exc c).ok K = true
  r1 : ∀ c f, G.exc.lookup c = some f → f ≠ Str.empty → IniC K (He.ga K c) f ∧ ∃ fd ps, Binds K fd ps [] ∧ FnOk P w K mg base (L2N.CX P w) 1 (He.ma K (He.ga K c) "__init__") fd ps (spIni (He.ga K c) f)
  no : ∀ c ∈ G.exs, ∀ f, (G.exc.map (·.2)).contains f = true → f ≠ Str.empty → PySem.W.findIn K (.ref (He.ga K c)) f = some none
theorem exs_mem {G : Glo} {c : Str} {f : Str} (h : G.exc.lookup c = some f) : c ∈ G.exs := by
  obtain ⟨l1, l2, e, _⟩ := List.lookup_eq_some_iff.mp h
  unfold Glo.exs
  rw [e]; simp
/-- what an own class says -/
structure ClsOk (K : PySem.W.Frag) (mg : Str → Option Value) (c : Str) (fs : List Str) : Prop where
  at_ : mg c = some (.ref (He.ga K c))
  cls : Cls K (He.ga K c)
  no : ∀ f ∈ fs, NoAttr K (He.ga K c) f
  mak : Mk K (He.ga K c) (He.ma K (He.ga K c) "__init__")
/-- where a def stands -/
def PlaceOk (K : PySem.W.Frag) (mg : Str → Option Value) (fn : Fn) (a : Addr) : Prop := match fn.cls with
  | none => mg fn.name = some (.ref a) ∧ PySem.W.keepIn K (.ref a) = true
  | some c => a = He.ma K (He.ga K c) fn.name ∧ Meth K (He.ga K c) fn.name a
/-- what a written dict of the top has -/
def DicAt (K : PySem.W.Frag) (d : Addr) (kvs : List (Str × Val)) : Prop := ∀ z : Str, match kvs.lookup z with
  | none => PySem.W.nsIn K d z = some none
  | some v => ∃ u xv, PySem.W.nsIn K d z = some (some u) ∧ RelV xv u ∧ ∀ H, RV K H v xv
theorem DicAt.isSome {K : PySem.W.Frag} {d : Addr} {kvs : List (Str × Val)} (h : DicAt K d kvs) (z : Str) : ∃ r : Option Value, PySem.W.nsIn K d z = some r ∧ r.isSome = (kvs.lookup z).isSome := by
  have := h z
  split at this
  · rename_i e
    exact ⟨none, this, by rw [e]; rfl⟩
  · rename_i e
    obtain ⟨u, _, h, _⟩ := this
    exact ⟨some u, h, by rw [e]; rfl⟩
theorem ix_kd {X : Cx} {d : Addr} {es : Array DictEntry} {n : Nat} (D : KDict X.K X.w d es n) : IxR X (fun x y H Q => ∃ (z : Str) (u0 : Value) (v0 : V), x = .ref d ∧ y = .str z ∧ PySem.W.nsIn X.K d z = some (some u0) ∧ RelV v0 u0 ∧ Q v0 H) := by
  intro value slice pins s σ H x y v u Q I rx ry h hs
  have q := op_item_kd D pins s σ H x y v u Q I rx ry h
  obtain ⟨z, u0, v0, rfl, rfl, _⟩ := h
  cases rx
  exact tail_any (kd_type D I) PySem.F.slot_dict_getitem.lookup q hs
structure Good (G : Glo) (C : CallSem) (ca : Nat → Addr) (W : WX) (k : Nat) (N : List Str) (sc : Scope) (X : Cx) : Prop where
  tk : L2N.Takes X W
  n : X.N = N
  sc : X.env.scope = sc
  nd : N.Nodup
  calm : G.hot = false → X.calm = true
  room : RoomU X.A
  cr : G.hot = false → Room (k + 1) X.A
  con : ∀ x v, G.con.lookup x = some v → ∃ u xv, X.mg x = some u ∧ RelV xv u ∧ ∀ H, RV X.K H v xv
  free : ∀ x, G.free.contains x = true → X.mg x = none
  dic : ∀ x kvs, G.dic.lookup x = some kvs → ∃ d es n, X.mg x = some (.ref d) ∧ KDict X.K X.w d es n ∧ DicAt X.K d kvs
  fn : ∀ f fn, G.T[f]? = some fn → ∃ a fd ps, PlaceOk X.K X.mg fn a ∧ Binds X.K fd ps [] ∧ FnOk X.prog X.w X.K X.mg X.base (L2N.CX X.prog X.w) k a fd ps (spF X.K ca C f)
  cls : ∀ c fs, G.cls.lookup c = some fs → ClsOk X.K X.mg c fs
  exn : ExnOk X.prog X.w X.K X.mg X.base G
section
variable {G : Glo} {C : CallSem} {ca : Nat → Addr} {W : WX} {k : Nat} {N : List Str} {sc : Scope} {X : Cx}
theorem Good.blk (g : Good G C ca W k N sc X) (s : Shared) (H : Hp) (scope : Scope) (cl : List (Str × Addr)) (D : Addr) (fp : List Addr) : Good G C ca W0 k N (relS scope sc) (X.blk s H scope (compEnvC scope cl D X.env) fp) := by
  refine ⟨takes0N, g.n, ?_, g.nd, g.calm, g.room, g.cr, g.con, g.free, g.dic, g.fn, g.cls, g.exn⟩
  rw [← g.sc]; rfl
theorem Good.vis (g : Good G C ca W k N sc X) {x : Str} (h : visB sc x = true) : Vis X.env.scope x := by rw [g.sc]; exact visB_ok h
theorem Good.gl (g : Good G C ca W k N sc X) {x : Str} (h : gloB sc x = true) : Gl X x := by
  show X.env.scope.names.lookup x = _
  rw [g.sc]; exact gloB_ok h
theorem Good.fr (g : Good G C ca W k N sc X) {x : Str} (h : freeB G sc x = true) : Gl X x ∧ X.mg x = none ∧ x ≠ "__name__" ∧ (x == ("__debug__" : Str)) = false := by
  unfold freeB at h
  rw [Bool.and_eq_true, Bool.and_eq_true] at h
  obtain ⟨h1, h2, h3⟩ := plainB_ok h.2.1
  exact ⟨g.gl h.1, g.free x h.2.2, h3, h1⟩
theorem tgB_ok {names : Str → Prop} {T : Nat → Str → Prop} (hN : ∀ i x, N[i]? = some x → locB sc x = true → T i x) : ∀ {is : List Nat} {es : List Expr}, tgB N sc is es = true → Paired (fun i e => ∃ x p, e = Expr.Name x p ∧ T i x) is es
  | [], [], _ => .nil
  | [], _ :: _, h => by cases h
  | _ :: _, [], h => by cases h
  | i :: is, e :: es, h => by
    unfold tgB at h
    rw [Bool.and_eq_true] at h
    obtain ⟨h1, h2⟩ := h
    split at h1
    · rename_i x e1
      obtain ⟨p, e1⟩ := dName_eq e1
      rw [Bool.and_eq_true] at h1
      exact .cons ⟨x, p, e1, hN i x (of_decide_eq_true h1.1) h1.2⟩ (tgB_ok (names := names) hN h2)
    · cases h1
theorem tgs_of {X : Cx} : ∀ {is : List Nat} {es : List Expr}, Paired (fun i e => ∃ x p, e = Expr.Name x p ∧ TgOk X i x) is es → Tgs X is es
  | _, _, .nil => .nil
  | _, _, .cons ⟨x, p, e, h⟩ t => by subst e; exact .cons h (tgs_of t)
theorem tgL_pg {X : Cx} (nd : X.N.Nodup) (hc : X.calm = true) {tg : Tg} {e : Expr} (h : match tg with | .nm i => Tgs X [i] [e] | .tp is => ∃ es k p, e = .Tuple es k p ∧ Tgs X is es) : PG X e (gOf X.K tg) := by
  cases tg with
  | nm i =>
    cases h with
    | cons h _ => exact pg_name nd h.1 h.2.1 h.2.2
  | tp is =>
    obtain ⟨es, k, p, rfl, t⟩ := h
    exact pg_tup hc (t.pgs nd) t.len t.plain
def lcTg (one : Bool) (tg : List Nat) : Tg := if one then .nm (tg.headD 0) else .tp tg
/-- a comprehension's targets -/
theorem tgE_ok (hot : G.hot = false) (g : Good G C ca W k N sc X) {scope : Scope} {one : Bool} {tg : List Nat} {e : Expr} (h : tgE N scope one tg e = true) (s : Shared) (H : Hp) (cl : List (Str × Addr)) (D : Addr) (fp : List Addr) :
    PG (X.blk s H scope (compEnvC scope cl D X.env) fp) e (gOf X.K (lcTg one tg)) := by
  have ok : ∀ i x, N[i]? = some x → locB scope x = true → TgOk (X.blk s H scope (compEnvC scope cl D X.env) fp) i x := by
    intro i x hi hx
    refine ⟨by rw [← g.n] at hi; exact hi, ?_, ?_⟩
    · rcases locB_ok hx with z | z
      · exact .inl (lookup_relS_keep (sc := X.env.scope) (by decide) z)
      · exact .inr (lookup_relS_keep (sc := X.env.scope) (by decide) z)
    · rcases locB_ok hx with z | z
      · exact .inr (lookup_relS_keep (sc := X.env.scope) (by decide) z)
      · left
        show (scope.names.lookup x == some .cell) = true
        rw [z]; rfl
  refine tgL_pg (X := X.blk s H scope (compEnvC scope cl D X.env) fp) (by rw [show (X.blk s H scope (compEnvC scope cl D X.env) fp).N = N from g.n]; exact g.nd) (g.calm hot) ?_
  unfold tgE at h
  cases one with
  | true =>
    simp only [Bool.and_eq_true, decide_eq_true_eq] at h
    match tg, h with
    | [i], ⟨_, h⟩ => exact tgs_of (tgB_ok (names := fun _ => True) ok h)
  | false =>
    simp only at h
    split at h
    · rename_i es e1
      obtain ⟨kk, p, e1⟩ := dTup_eq e1
      exact ⟨es, kk, p, e1, tgs_of (tgB_ok (names := fun _ => True) ok h)⟩
    · cases h
theorem chkIt_fold {env : PySem.Env} {many : Bool} {it : It} {e : Expr} (h : chkIt G N sc many it e = true) : ∀ x, foldedSetIterable e env x = pure x := by
  have call : ∀ {y : Str} {es : List Expr}, dCall e = some (y, es) → ∀ x, foldedSetIterable e env x = pure x := fun q => by
    obtain ⟨p, pos, rfl⟩ := dCall_eq q
    intro x; rfl
  cases it with
  | seq a =>
    unfold chkIt at h
    rw [Bool.and_eq_true] at h
    cases e <;> first | (intro x; rfl) | (exact absurd h.2 (by simp))
  | keys a =>
    unfold chkIt at h
    rw [Bool.and_eq_true] at h
    cases e <;> first | (intro x; rfl) | (exact absurd h.2 (by simp))
  | _ =>
    unfold chkIt at h
    first
      | cases h
      | (split at h
         · rename_i q; exact call q
         · cases h)
      | (rw [Bool.and_eq_true] at h
         have h := h.2
         split at h
         · rename_i q; exact call q
         · cases h)
theorem revRun {S1 : Sto} {H1 : Hp} {P : VP} {Q : VK} {v : Val} {y : V} (rs1 : RS X.K ca H1 S1) (rv : RV X.K H1 v y) (p1 : semRev v S1 P) (f : FinP X.K ca S1 H1 P Q) :
    ∃ a xs, y = V.ref a ∧ ((SqL X.K H1 a xs ∧ ∀ p, H1 p = none → Q (.ref p) (upd H1 p (.lst xs.reverse))) ∨ (SqT X.K H1 a xs ∧ ∀ p, H1 p = none → Q (.ref p) (upd H1 p (.tup xs.reverse)))) := by
  have onL : (∃ vs, lts S1 v = some vs ∧ allo S1 (.lst vs.reverse) P) → ∃ a xs, y = V.ref a ∧ ((SqL X.K H1 a xs ∧ ∀ p, H1 p = none → Q (.ref p) (upd H1 p (.lst xs.reverse))) ∨ (SqT X.K H1 a xs ∧ ∀ p, H1 p = none → Q (.ref p) (upd H1 p (.tup xs.reverse)))) := by
    rintro ⟨vs, e1, p1⟩
    obtain ⟨a, xs, e, hq, rr⟩ := rv.lts rs1 e1
    exact ⟨a, xs, e, .inl ⟨hq, f.lst rs1 p1 rr.reverse⟩⟩
  cases rv with
  | tup e1 q1 => exact ⟨_, _, rfl, .inr ⟨.of e1, f.tup rs1 p1 q1.reverse⟩⟩
  | _ => exact onL p1
theorem seqRun {S1 : Sto} {H1 : Hp} {P : Wk → Sto → Prop} {R : L2.It → Hp → Prop} {v : Val} {y : V} (rs1 : RS X.K ca H1 S1)
    (p1 : match v with | .str z => P ⟨signs z, none, none, none⟩ S1 | v => ∃ w, wkOf S1 v id = some w ∧ P w S1) (rv : RV X.K H1 v y) (f : ∀ w, P w S1 → ∀ J, Jok X.K ca H1 w J → R J H1) :
    (∃ a xs, y = V.ref a ∧ SqL X.K H1 a xs ∧ R (Itl X.K a) H1) ∨ (∃ a xs, y = V.ref a ∧ SqT X.K H1 a xs ∧ R (Itt X.K a) H1) ∨ ∃ z, y = V.str z ∧ R (Its z) H1 := by
  have gen : (∃ w, wkOf S1 v id = some w ∧ P w S1) → (∃ a xs, y = V.ref a ∧ SqL X.K H1 a xs ∧ R (Itl X.K a) H1) ∨ (∃ a xs, y = V.ref a ∧ SqT X.K H1 a xs ∧ R (Itt X.K a) H1) ∨ ∃ z, y = V.str z ∧ R (Its z) H1 := by
    rintro ⟨w, hw, p⟩
    obtain ⟨vs, o, rfl, src, ok⟩ := src_of rs1 rv hw
    obtain ⟨a, rfl, T | L⟩ := src.kind (ca := ca)
    · obtain ⟨xs, hq, _⟩ := T H1 S1 .refl rs1 (ok_one ok)
      exact .inr (.inl ⟨a, xs, rfl, hq, f _ p _ (jok_t T)⟩)
    · obtain ⟨xs, hq, _⟩ := L H1 S1 .refl rs1 (ok_one ok)
      exact .inl ⟨a, xs, rfl, hq, f _ p _ (jok_l L)⟩
  cases rv with
  | str z => exact .inr (.inr ⟨z, rfl, f _ p1 _ (jok_str z)⟩)
  | _ => exact gen p1
theorem enumRun {S1 : Sto} {H1 : Hp} {P : Wk → Sto → Prop} {R : L2.It → Hp → Prop} {v : Val} {y : V} (rs1 : RS X.K ca H1 S1) (rv : RV X.K H1 v y)
    (p1 : ∃ w, wkOf S1 v (fun vs => enumL vs 0) = some w ∧ P w S1) (f : ∀ w, P w S1 → ∀ J, Jok X.K ca H1 w J → R J H1) :
    ∃ a xs, y = V.ref a ∧ ((SqL X.K H1 a xs ∧ R (Ite X.K a) H1) ∨ (SqT X.K H1 a xs ∧ R (IteT X.K a) H1)) := by
  obtain ⟨w, hw, p⟩ := p1
  obtain ⟨vs, o, rfl, src, ok⟩ := src_of rs1 rv hw
  obtain ⟨a, rfl, T | L⟩ := src.kind (ca := ca)
  · obtain ⟨xs, hq, _⟩ := T H1 S1 .refl rs1 (ok_one ok)
    exact ⟨a, xs, rfl, .inr ⟨hq, f _ p _ (jok_et T)⟩⟩
  · obtain ⟨xs, hq, _⟩ := L H1 S1 .refl rs1 (ok_one ok)
    exact ⟨a, xs, rfl, .inl ⟨hq, f _ p _ (jok_el L)⟩⟩
theorem revItRun {S1 : Sto} {H1 : Hp} {P : Wk → Sto → Prop} {R : L2.It → Hp → Prop} {v : Val} {y : V} (rs1 : RS X.K ca H1 S1) (rv : RV X.K H1 v y)
    (p1 : ∃ w, wkOf S1 v List.reverse = some w ∧ P w S1) (f : ∀ w, P w S1 → ∀ J, Jok X.K ca H1 w J → R J H1) :
    ∃ (a : Addr) (xs : List V), y = V.ref a ∧ ((SqL X.K H1 a xs ∧ R (Itv X.K a xs.length) H1) ∨ (SqT X.K H1 a xs ∧ R (RT.ItvT X.K a xs.length) H1)) := by
  obtain ⟨w, hw, p⟩ := p1
  obtain ⟨vs, o, rfl, src, ok⟩ := src_of rs1 rv hw
  obtain ⟨a, rfl, T | L⟩ := src.kind (ca := ca)
  · obtain ⟨xs, hq, rr⟩ := T H1 S1 .refl rs1 (ok_one ok)
    exact ⟨a, xs, rfl, .inr ⟨hq, f _ p _ (jok_rt T rr.len.symm)⟩⟩
  · obtain ⟨xs, hq, rr⟩ := L H1 S1 .refl rs1 (ok_one ok)
    exact ⟨a, xs, rfl, .inl ⟨hq, f _ p _ (jok_rl L rr.len.symm)⟩⟩
theorem zipRun {S2 : Sto} {H2 : Hp} {P : Wk → Sto → Prop} {R : L2.It → Hp → Prop} {v u : Val} {x y : V} (rs : RS X.K ca H2 S2) (rv : RV X.K H2 v x) (ru : RV X.K H2 u y)
    (p : ∃ xs ys, its S2 v = some xs ∧ its S2 u = some ys ∧ isT v = isT u ∧ P ⟨zipL xs ys, trk S2 v, trk S2 u, none⟩ S2) (f : ∀ w, P w S2 → ∀ J, Jok X.K ca H2 w J → R J H2) :
    ∃ a b xs ys, [x, y] = [V.ref a, V.ref b] ∧ ((SqL X.K H2 a xs ∧ SqL X.K H2 b ys ∧ R (Itz X.K a b) H2) ∨ (SqT X.K H2 a xs ∧ SqT X.K H2 b ys ∧ R (RZ.ItzT X.K a b) H2)) := by
  obtain ⟨xs, ys, h1, h2, h3, p⟩ := p
  obtain ⟨a, rfl, o1, k1⟩ := src_its rs rv h1
  obtain ⟨b, rfl, o2, k2⟩ := src_its rs ru h2
  rcases k1 with ⟨t1, n1, A1⟩ | ⟨t1, A1⟩
  · rcases k2 with ⟨t2, n2, A2⟩ | ⟨t2, _⟩
    · rw [n1, n2] at p
      obtain ⟨us, hq1, _⟩ := A1 H2 S2 .refl rs trivial
      obtain ⟨ws, hq2, _⟩ := A2 H2 S2 .refl rs trivial
      exact ⟨a, b, us, ws, rfl, .inr ⟨hq1, hq2, f _ p _ (jok_z2t A1 A2)⟩⟩
    · rw [t1, t2] at h3; cases h3
  · rcases k2 with ⟨t2, _, _⟩ | ⟨t2, A2⟩
    · rw [t1, t2] at h3; cases h3
    · obtain ⟨us, hq1, _⟩ := A1 H2 S2 .refl rs o1
      obtain ⟨ws, hq2, _⟩ := A2 H2 S2 .refl rs o2
      exact ⟨a, b, us, ws, rfl, .inl ⟨hq1, hq2, f _ p _ (jok_z2l A1 A2)⟩⟩
theorem zip3Run {S2 : Sto} {H2 : Hp} {P : Wk → Sto → Prop} {R : L2.It → Hp → Prop} {v u t : Val} {x y z : V} (rs : RS X.K ca H2 S2) (rv : RV X.K H2 v x) (ru : RV X.K H2 u y) (rt : RV X.K H2 t z)
    (p : ∃ xs ys zs, its S2 v = some xs ∧ its S2 u = some ys ∧ its S2 t = some zs ∧ isT v = true ∧ isT u = true ∧ isT t = true ∧ P ⟨zip3L xs ys zs, none, none, none⟩ S2) (f : ∀ w, P w S2 → ∀ J, Jok X.K ca H2 w J → R J H2) :
    ∃ a b c xs ys zs, [x, y, z] = [V.ref a, V.ref b, V.ref c] ∧ SqT X.K H2 a xs ∧ SqT X.K H2 b ys ∧ SqT X.K H2 c zs ∧ R (ItzT3 X.K a b c (min (min xs.length ys.length) zs.length)) H2 := by
  obtain ⟨xs, ys, zs, h1, h2, h3, t1, t2, t3, p⟩ := p
  obtain ⟨a, rfl, o1, k1⟩ := src_its rs rv h1
  obtain ⟨b, rfl, o2, k2⟩ := src_its rs ru h2
  obtain ⟨c, rfl, o3, k3⟩ := src_its rs rt h3
  rcases k1 with ⟨_, _, A1⟩ | ⟨q, _⟩
  · rcases k2 with ⟨_, _, A2⟩ | ⟨q, _⟩
    · rcases k3 with ⟨_, _, A3⟩ | ⟨q, _⟩
      · obtain ⟨us, hq1, r1⟩ := A1 H2 S2 .refl rs trivial
        obtain ⟨ws, hq2, r2⟩ := A2 H2 S2 .refl rs trivial
        obtain ⟨ts, hq3, r3⟩ := A3 H2 S2 .refl rs trivial
        exact ⟨a, b, c, us, ws, ts, rfl, hq1, hq2, hq3, f _ p _ (jok_z3 A1 A2 A3 (by rw [r1.len, r2.len, r3.len]))⟩
      · rw [t3] at q; cases q
    · rw [t2] at q; cases q
  · rw [t1] at q; cases q
end
theorem RF.look {K : PySem.W.Frag} {H : Hp} {f : Str} {w : Val} : ∀ {fs : List (Str × Val)} {t : List (Str × V)}, RF K H fs t → fs.lookup f = some w → ∃ y, t.lookup f = some y ∧ RV K H w y
  | _, _, .nil, h => by cases h
  | _, _, .cons (f := g) hv r, h => by
    rw [List.lookup_cons] at h ⊢
    split at h
    · cases h; exact ⟨_, rfl, hv⟩
    · exact r.look h
theorem RF.lookN {K : PySem.W.Frag} {H : Hp} {f : Str} : ∀ {fs : List (Str × Val)} {t : List (Str × V)}, RF K H fs t → fs.lookup f = none → t.lookup f = none
  | _, _, .nil, _ => rfl
  | _, _, .cons (f := g) hv r, h => by
    rw [List.lookup_cons] at h ⊢
    split at h
    · cases h
    · exact r.lookN h
theorem RF.put {K : PySem.W.Frag} {H : Hp} {f : Str} {w : Val} {y : V} (h : RV K H w y) : ∀ {fs : List (Str × Val)} {t : List (Str × V)}, RF K H fs t → RF K H (fput f w fs) (putF f y t)
  | _, _, .nil => .cons h .nil
  | _, _, .cons (f := g) hv r => by
    unfold fput putF
    split
    · exact .cons h r
    · exact .cons hv (r.put h)
theorem RF.len {K : PySem.W.Frag} {H : Hp} : ∀ {fs : List (Str × Val)} {t : List (Str × V)}, RF K H fs t → fs.length = t.length
  | _, _, .nil => rfl
  | _, _, .cons _ r => by rw [List.length_cons, List.length_cons, r.len]
theorem lookup_mem {β : Type} {c : Str} : ∀ {l : List (Str × β)}, (l.map (·.1)).contains c = true → ∃ b, l.lookup c = some b
  | [], h => by cases h
  | (a, b) :: l, h => by
    rw [List.lookup_cons]
    split
    · exact ⟨_, rfl⟩
    · rename_i n
      rw [List.map_cons, List.contains_cons, n, Bool.false_or] at h
      exact lookup_mem h
section
variable {G : Glo} {C : CallSem} {ca : Nat → Addr} {W : WX} {k : Nat} {N : List Str} {sc : Scope} {X : Cx}
theorem excN_ok (g : Good G C ca W k N sc X) {x : Str} {e : Expr} (h : excN G sc x e = true) : x ∈ (("ValueError" : Str) :: G.exs) ∧ noStar e = true ∧ PE X e (tC (clsW X.K x)) := by
  unfold excN at h
  split at h
  · rename_i y e1
    obtain ⟨p, rfl⟩ := dName_eq e1
    simp only [Bool.and_eq_true, decide_eq_true_eq] at h
    obtain ⟨hxy, h3, h4⟩ := h
    subst hxy
    unfold excB at h4
    by_cases hv : x = ("ValueError" : Str)
    · rw [if_pos hv] at h4
      obtain ⟨f1, f2, f3, f4⟩ := g.fr h4
      subst hv
      exact ⟨List.mem_cons_self, h3, pe_bltn (u := .type "ValueError") f1 f2 PyProof.Rows.Boot.«ValueError» rfl f3 f4⟩
    · rw [if_neg hv, Bool.and_eq_true, Bool.and_eq_true] at h4
      obtain ⟨k1, k2, k3⟩ := h4
      have hm : x ∈ G.exs := by simpa using k3
      obtain ⟨d1, _, _⟩ := plainB_ok k2
      refine ⟨List.mem_cons_of_mem _ hm, h3, ?_⟩
      have e : clsW X.K x = .ref (He.ga X.K x) := if_neg hv
      rw [e]
      exact pe_glob (g.gl k1) (g.exn.at_ x hm) rfl d1
  · cases h
/-- the classes that isinstance asks for -/
theorem excsB_ok (g : Good G C ca W k N sc X) : ∀ {xs : List Str} {es : List Expr}, excsB G sc xs es = true →
    (∀ x ∈ xs, x ∈ (("ValueError" : Str) :: G.exs)) ∧ es.all noStar = true ∧ PA X es (fun σ H Q => Q (xs.map (clsW X.K)) H)
  | [], [], _ => ⟨(fun _ z => nomatch z), rfl, pa_nil⟩
  | [], _ :: _, h => by cases h
  | _ :: _, [], h => by cases h
  | x :: xs, e :: es, h => by
    unfold excsB at h
    rw [Bool.and_eq_true] at h
    obtain ⟨h1, h2⟩ := h
    obtain ⟨i1, i2, i3⟩ := excsB_ok g h2
    obtain ⟨k1, k2, k3⟩ := excN_ok g h1
    refine ⟨fun z hz => ?_, by rw [List.all_cons, k2, i2]; rfl, pa_imp (pa_cons k3 i3 (noStar_each k2 _ _)) fun σ H Q q => q⟩
    rcases List.mem_cons.mp hz with rfl | hz
    · exact k1
    · exact i1 z hz
/-- what is asked for, as isinstance gets it -/
def tIsx (K : PySem.W.Frag) (one : Bool) (xs : List Str) : TE := fun σ H Q => match one with
  | true => ∃ x, xs = [x] ∧ Q (clsW K x) H
  | false => ∀ p, H p = none → Q (.ref p) (upd H p (.tup (xs.map (clsW K))))
theorem isxB_ok (g : Good G C ca W k N sc X) {one : Bool} {xs : List Str} {z : Expr} (h : isxB G sc one xs z = true) : (∀ x ∈ xs, x ∈ (("ValueError" : Str) :: G.exs)) ∧ noStar z = true ∧ PE X z (tIsx X.K one xs) := by
  unfold isxB at h
  cases one with
  | true =>
    simp only at h
    split at h
    · rename_i x
      obtain ⟨k1, k2, k3⟩ := excN_ok g h
      refine ⟨fun z hz => ?_, k2, pe_imp k3 fun σ H Q q => ?_⟩
      · rw [List.mem_singleton.mp hz]; exact k1
      · obtain ⟨y, e, q⟩ := q
        cases e; exact q
    · cases h
  | false =>
    simp only at h
    split at h
    · rename_i zs e1
      obtain ⟨kk, p, rfl⟩ := dTup_eq e1
      simp only [Bool.and_eq_true, decide_eq_true_eq] at h
      obtain ⟨h1, h2, h3⟩ := excsB_ok g h.2.2
      exact ⟨h1, h.2.1, pe_imp (pe_tup h3) fun σ H Q q => ⟨by rw [List.length_map, line_is]; omega, q⟩⟩
    · cases h
theorem isx_one {xs : List Str} {z : Expr} (h : isxB G sc true xs z = true) : ∃ x, xs = [x] := by
  unfold isxB at h
  simp only at h
  split at h
  · exact ⟨_, rfl⟩
  · cases h
theorem Each.nil0 {es : Es} {xs : List Expr} (E : Each X ca W C es xs) (e : xs = []) : ∀ σ H Q, rA X.K ca W (evs C es) σ H Q → Q [] H := by
  subst e
  cases E
  exact fun σ H Q ⟨ρ, S, P, xp, re, rs, hm, f, fx⟩ => f [] S hm H [] .refl rs .nil
end
set_option maxHeartbeats 1000000
mutual
theorem sndE {G : Glo} {C : CallSem} {ca : Nat → Addr} {W : WX} {k : Nat} {N : List Str} : ∀ (e : E) {sc : Scope} {X : Cx} {x : Expr}, Good G C ca W k N sc X → chkE G N sc e x = true → PE X x (rE X.K ca W (ev C e)) ∧ PT X x (rT X.K ca W (ev C e))
  | .var i, sc, X, x, g, h => by
    unfold chkE at h
    split at h
    · rename_i y e1
      obtain ⟨p, rfl⟩ := dName_eq e1
      simp only [Bool.and_eq_true, decide_eq_true_eq] at h
      obtain ⟨h1, h2, h3⟩ := h
      obtain ⟨d1, d2, _⟩ := plainB_ok h3
      have pe : PE X (.Name y p) (rE X.K ca W (ev C (.var i))) := pe_imp (pe_var (i := i) (by rw [g.n]; exact h1) (g.vis h2) d1 d2) fun σ H Q ⟨ρ, S, P, xp, re, rs, hm, f, fx⟩ => by
        obtain ⟨v, hv, p⟩ := hm
        obtain ⟨z, hz, rz⟩ := re.get i v hv
        exact ⟨z, hz, f.val rs p rz⟩
      exact ⟨pe, pt_of pe fun _ => rfl⟩
    · cases h
  | .con v, sc, X, x, g, h => by
    unfold chkE at h
    split at h
    · rename_i c e1
      obtain ⟨kk, p, rfl⟩ := dConst_eq e1
      have pe : PE X (.Constant c kk p) (rE X.K ca W (ev C (.con v))) := by
        cases v <;> cases c <;> simp [constB] at h
        · exact pe_imp pe_non fun σ H Q ⟨ρ, S, P, xp, re, rs, hm, f, fx⟩ => f.val rs hm .non
        · subst h; exact pe_imp pe_bl fun σ H Q ⟨ρ, S, P, xp, re, rs, hm, f, fx⟩ => f.val rs hm (.bl _)
        · subst h; exact pe_imp pe_int fun σ H Q ⟨ρ, S, P, xp, re, rs, hm, f, fx⟩ => f.val rs hm (.int _)
        · subst h; exact pe_imp pe_str fun σ H Q ⟨ρ, S, P, xp, re, rs, hm, f, fx⟩ => f.val rs hm (.str _)
      exact ⟨pe, pt_of pe fun _ => rfl⟩
    · cases h
  | .glo y v, sc, X, x, g, h => by
    unfold chkE at h
    split at h
    · rename_i z e1
      obtain ⟨p, rfl⟩ := dName_eq e1
      simp only [Bool.and_eq_true, decide_eq_true_eq] at h
      obtain ⟨h0, h1, h2, h3⟩ := h
      obtain ⟨d1, d2, _⟩ := plainB_ok h2
      obtain ⟨u, xv, hm, hr, hv⟩ := g.con z v h3
      have pe : PE X (.Name z p) (rE X.K ca W (ev C (.glo y v))) := pe_imp (pe_glob (g.gl h1) hm hr d1) fun σ H Q ⟨ρ, S, P, xp, re, rs, hm, f, fx⟩ => f.val rs hm (hv H)
      exact ⟨pe, pt_of pe fun _ => rfl⟩
    · cases h
  | .bin op a b, sc, X, x, g, h => by
    unfold chkE at h
    split at h
    · rename_i ea o eb e1
      obtain ⟨p, rfl⟩ := dBin_eq e1
      simp only [Bool.and_eq_true] at h
      obtain ⟨h1, h2, h3⟩ := h
      have pe : PE X (.BinOp ea o eb p) (rE X.K ca W (ev C (.bin op a b))) := pe_imp (pe_op (snd_op h1) (sndE a g h2).1 (sndE b g h3).1) fun σ H Q ⟨ρ, S, P, xp, re, rs, hm, f, fx⟩ =>
        rE_of re rs hm fx fun v S1 p1 H1 y st rs1 re1 _ rv => rE_of re1 rs1 p1 (fx.after st) fun w S2 p2 H2 z st2 rs2 _ tk rw =>
          ⟨S2, v, w, P, rs2, rv.mono tk, rw, p2, f.after (st.trans st2)⟩
      exact ⟨pe, pt_of pe fun _ => rfl⟩
    · cases h
  | .neg a, sc, X, x, g, h => by
    unfold chkE at h
    split at h
    · rename_i ea e1
      obtain ⟨p, rfl⟩ := dUn_eq e1
      have pe : PE X (.UnaryOp .USub ea p) (rE X.K ca W (ev C (.neg a))) := pe_imp (pe_un un_neg (sndE a g h).1) fun σ H Q ⟨ρ, S, P, xp, re, rs, hm, f, fx⟩ =>
        rE_of re rs hm fx fun v S1 ⟨i, ei, p1⟩ H1 y st rs1 re1 _ rv => by
          subst ei
          cases rv
          exact ⟨i, rfl, f _ _ p1 _ _ st rs1 (.int _)⟩
      exact ⟨pe, pt_of pe fun _ => rfl⟩
    · cases h
  | .cmp op a b, sc, X, x, g, h => by
    unfold chkE at h
    split at h
    · rename_i ea o eb e1
      obtain ⟨p, rfl⟩ := dCmp_eq e1
      simp only [Bool.and_eq_true, Bool.not_eq_true'] at h
      obtain ⟨h1, h0, h2, h3⟩ := h
      have run : ∀ {m : M1} {σ : L2.St} {H : Hp} {Q : VK}, rE X.K ca W (ev C (.cmp op a b)) σ H Q → tOp (RCof X.K ca (semCmp op)) (rE X.K ca W (ev C a)) (rE X.K ca W (ev C b)) σ H Q := fun {m σ H Q} ⟨ρ, S, P, xp, re, rs, hm, f, fx⟩ =>
        rE_of re rs hm fx fun v S1 p1 H1 y st rs1 re1 _ rv => rE_of re1 rs1 p1 (fx.after st) fun w S2 p2 H2 z st2 rs2 _ tk rw =>
          ⟨S2, v, w, fun c => P (.bl c) S2, rs2, rv.mono tk, rw, p2, fun c pc H3 st3 rs3 => f _ _ pc H3 _ ((st.trans st2).trans st3) rs3 (.bl c)⟩
      refine ⟨pe_imp (pe_cmpR (snd_cmp g.room h1) (sndE a g h2).1 (sndE b g h3).1 h0) fun σ H Q q => run (m := fun _ _ _ _ => True) q, pt_imp (pt_cmpR (snd_cmp (ca := ca) g.room h1) (sndE a g h2).1 (sndE b g h3).1 h0) ?_⟩
      rintro σ H Q ⟨ρ, S, P, xp, re, rs, hm, f, fx⟩
      refine rE_of re rs hm fx fun v S1 p1 H1 y st rs1 re1 _ rv => rE_of re1 rs1 p1 (fx.after st) fun w S2 p2 H2 z st2 rs2 _ tk rw =>
          ⟨S2, v, w, fun c => P c S2, rs2, rv.mono tk, rw, ?_, fun c pc H3 st3 rs3 => ⟨c, rfl, f _ _ pc H3 ((st.trans st2).trans st3) rs3⟩⟩
      have e1 : (fun c => ∃ b, Val.bl c = .bl b ∧ P b S2) = fun c => P c S2 := by
        funext c
        exact propext ⟨fun ⟨b, h1, h2⟩ => by cases h1; exact h2, fun h => ⟨c, rfl, h⟩⟩
      exact e1 ▸ p2
    · cases h
  | .band es, sc, X, x, g, h => by
    unfold chkE at h
    split at h
    · rename_i xs e1
      obtain ⟨p, rfl⟩ := dBool_eq e1
      rw [Bool.and_eq_true] at h
      obtain ⟨h1, h2⟩ := (sndEs es g h.2).and (pos := p) (by intro z; rw [z] at h; simp at h)
      exact ⟨h1, h2.pt⟩
    · cases h
  | .bor es, sc, X, x, g, h => by
    unfold chkE at h
    split at h
    · rename_i xs e1
      obtain ⟨p, rfl⟩ := dBool_eq e1
      rw [Bool.and_eq_true] at h
      obtain ⟨h1, h2⟩ := (sndEs es g h.2).or (pos := p) (by intro z; rw [z] at h; simp at h)
      exact ⟨h1, h2.pt⟩
    · cases h
  | .not a, sc, X, x, g, h => by
    unfold chkE at h
    split at h
    · rename_i ea e1
      obtain ⟨p, rfl⟩ := dUn_eq e1
      obtain ⟨i1, i2⟩ := sndE a g h
      refine ⟨pe_imp (pe_not i1) fun σ H Q ⟨ρ, S, P, xp, re, rs, hm, f, fx⟩ => ?_, pt_imp (pt_not i2) fun σ H Q ⟨ρ, S, P, xp, re, rs, hm, f, fx⟩ => ?_⟩
      · exact rE_of re rs hm fx fun v S1 ⟨b, eb, p1⟩ H1 y st rs1 re1 _ rv => by
          subst eb
          cases rv
          exact ⟨b, rfl, f _ _ p1 _ _ st rs1 (.bl _)⟩
      · refine rT_of (P := fun b S1 => P (!b) S1) re rs ?_ fx fun b S1 p1 H1 st rs1 _ _ => f _ _ p1 _ st rs1
        have e1 : (fun (v : Val) (S1 : Sto) => ∃ b, v = Val.bl b ∧ ∃ b', Val.bl (!b) = .bl b' ∧ P b' S1) = fun v S1 => ∃ b, v = .bl b ∧ P (!b) S1 := by
          funext v S1
          exact propext ⟨fun ⟨b, h1, b', h2, h3⟩ => ⟨b, h1, by cases h2; exact h3⟩, fun ⟨b, h1, h2⟩ => ⟨b, h1, _, rfl, h2⟩⟩
        exact e1 ▸ hm
    · cases h
  | .tup es, sc, X, x, g, h => by
    unfold chkE at h
    split at h
    · rename_i xs e1
      obtain ⟨kk, p, rfl⟩ := dTup_eq e1
      have pe : PE X (.Tuple xs kk p) (rE X.K ca W (ev C (.tup es))) := pe_imp (pe_tup (sndEs es g h).pa) fun σ H Q ⟨ρ, S, P, xp, re, rs, hm, f, fx⟩ =>
        rA_of re rs hm fx fun vs S1 ⟨hl, p1⟩ H1 ys st rs1 _ _ rv => ⟨by rw [line_is, ← rv.len]; exact hl, (f.after st).tup rs1 p1 rv⟩
      exact ⟨pe, pt_of pe fun _ => rfl⟩
    · cases h
  | .lst es, sc, X, x, g, h => by
    unfold chkE at h
    split at h
    · rename_i xs e1
      obtain ⟨p, rfl⟩ := dLst_eq e1
      have pe : PE X (.List xs p) (rE X.K ca W (ev C (.lst es))) := pe_imp (pe_lst (sndEs es g h).pa) fun σ H Q ⟨ρ, S, P, xp, re, rs, hm, f, fx⟩ =>
        rA_of re rs hm fx fun vs S1 ⟨hl, p1⟩ H1 ys st rs1 _ _ rv => ⟨by rw [line_is, ← rv.len]; exact hl, (f.after st).lst rs1 p1 rv⟩
      exact ⟨pe, pt_of pe fun _ => rfl⟩
    · cases h
  | .dic es, sc, X, x, g, h => by
    unfold chkE at h
    split at h
    · rename_i ks vs e1
      obtain ⟨p, rfl⟩ := dDic_eq e1
      split at h
      · rename_i xs e2
        rw [Bool.and_eq_true] at h
        have pe := (sndEs es g h.2).dic (pos := p) e2 (of_decide_eq_true h.1)
        exact ⟨pe, pt_of pe fun _ => rfl⟩
      · cases h
    · cases h
  | .ix a b, sc, X, x, g, h => by
    unfold chkE at h
    split at h
    · rename_i ea eb e1
      obtain ⟨p, rfl⟩ := dSub_eq e1
      simp only [Bool.and_eq_true] at h
      obtain ⟨h1, h2, h3⟩ := h
      have pe : PE X (.Subscript ea eb p) (rE X.K ca W (ev C (.ix a b))) := pe_imp (pe_ix (snd_ix g.room) (sndE a g h2).1 (sndE b g h3).1 (noSl_ix h1)) fun σ H Q ⟨ρ, S, P, xp, re, rs, hm, f, fx⟩ =>
        rE_of re rs hm fx fun v S1 p1 H1 y st rs1 re1 _ rv => rE_of re1 rs1 p1 (fx.after st) fun w S2 p2 H2 z st2 rs2 _ tk rw =>
          ⟨S2, v, w, P, rs2, rv.mono tk, rw, p2, f.after (st.trans st2)⟩
      exact ⟨pe, pt_of pe fun _ => rfl⟩
    · cases h
  | .sl a lo hi, sc, X, x, g, h => by
    unfold chkE at h
    split at h
    · rename_i ea eb e1
      obtain ⟨p, rfl⟩ := dSub_eq e1
      split at h
      · rename_i l u e2
        obtain ⟨p2, rfl⟩ := dSl_eq e2
        simp only [Bool.and_eq_true] at h
        obtain ⟨h1, h2, h3⟩ := h
        have pe : PE X (.Subscript ea (.Slice l u none p2) p) (rE X.K ca W (ev C (.sl a lo hi))) := pe_imp (pe_slice snd_sl (sndE a g h1).1 (sndO lo g h2) (sndO hi g h3)) fun σ H Q ⟨ρ, S, P, xp, re, rs, hm, f, fx⟩ =>
          rE_of re rs hm fx fun v S1 p1 H1 y st rs1 re1 _ rv => rO_of re1 rs1 p1 (fx.after st) fun l S2 p2 H2 st2 rs2 re2 tk2 => rO_of re2 rs2 p2 (fx.after (st.trans st2)) fun u S3 p3 H3 st3 rs3 _ tk3 =>
            ⟨S3, v, P, rs3, (rv.mono tk2).mono tk3, p3, f.after ((st.trans st2).trans st3)⟩
        exact ⟨pe, pt_of pe fun _ => rfl⟩
      · cases h
    · cases h
  | .rev a, sc, X, x, g, h => by
    unfold chkE at h
    split at h
    · rename_i ea eb e1
      obtain ⟨p, rfl⟩ := dSub_eq e1
      rw [Bool.and_eq_true] at h
      obtain ⟨kk, p1, p2, p3, rfl⟩ := isRev_eq h.1
      have pe := pe_imp (pe_revA (k := kk) (p1 := p1) (p2 := p2) (p3 := p3) (pos := p) (sndE a g h.2).1) (t' := rE X.K ca W (ev C (.rev a))) fun σ H Q ⟨ρ, S, P, xp, re, rs, hm, f, fx⟩ =>
        rE_of re rs hm fx fun v S1 p1 H1 y st rs1 re1 _ rv => revRun rs1 rv p1 (f.after st)
      exact ⟨pe, pt_of pe fun _ => rfl⟩
    · cases h
  | .call f es, sc, X, x, g, h => by
    unfold chkE at h
    split at h
    · rename_i y xs e1
      obtain ⟨p, pos, rfl⟩ := dCall_eq e1
      simp only [Bool.and_eq_true, decide_eq_true_eq, Bool.not_eq_true'] at h
      obtain ⟨hot, h1, h2, h3, hne, h4⟩ := h
      obtain ⟨d1, d2, _⟩ := plainB_ok h3
      cases e2 : G.T[f]? with
      | none => rw [e2] at h1; cases h1
      | some fn =>
        rw [e2] at h1
        obtain ⟨hcl, h1⟩ : fn.cls = none ∧ fn.name = y := Prod.mk.inj (Option.some.inj h1)
        obtain ⟨a, fd, ps, pl, hb, F⟩ := g.fn f fn e2
        unfold PlaceOk at pl
        rw [hcl, h1] at pl
        obtain ⟨hm, hk⟩ := pl
        have E1 := sndEs es g h4
        have pe : PE X (.Call (.Name y p) xs [] pos) (rE X.K ca W (ev C (.call f es))) := by
          cases xs with
          | nil =>
            cases E1
            simp at hne
          | cons e1 es1 =>
            have hst := E1.stars
            rw [List.all_cons, Bool.and_eq_true] at hst
            exact pe_imp (pe_callS (E := WE W) F ((g.cr hot).mono (Nat.le_succ _)) (g.gl h2) hm hk hb (fun σ => L2N.passAt g.tk σ) E1.pa d1 (noStar_each hst.1 _ _) (starsAny hst.2)) fun σ H Q ⟨ρ, S, P, xp, re, rs, hm, f, fx⟩ =>
              rA_of re rs hm fx fun vs S1 p1 H1 ys st rs1 _ _ rv => ⟨S1, vs, P, xp, rs1, rv, p1, f.after st, fun x S' p H' cls d s r e => fx x S' p H' cls d (st.trans s) r e⟩
        exact ⟨pe, pt_of pe fun _ => rfl⟩
    · cases h
  | .blt b es, sc, X, x, g, h => by
    unfold chkE at h
    split at h
    · rename_i y xs e1
      obtain ⟨p, pos, rfl⟩ := dCall_eq e1
      simp only [Bool.and_eq_true, decide_eq_true_eq, Bool.not_eq_true'] at h
      obtain ⟨hot, h1, h2, h3, h4⟩ := h
      subst h1
      obtain ⟨f1, f2, f3, f4⟩ := g.fr h2
      have E1 := sndEs es g h4
      have pe : PE X (.Call (.Name (biN b) p) xs [] pos) (rE X.K ca W (ev C (.blt b es))) := by
        cases xs with
        | nil => simp at h3
        | cons z1 es1 =>
          have hst := E1.stars
          rw [List.all_cons, Bool.and_eq_true] at hst
          have run : PE X (.Call (.Name (biN b) p) (z1 :: es1) [] pos) (tCB (RBof X.K ca b) (rA X.K ca W (evs C es))) := by
            have hc := snd_bi (ca := ca) (g.calm hot) g.room b
            have hv := bi_boot b
            cases b <;> first
              | exact pe_callB hc f1 f2 hv E1.pa f3 f4 (noStar_each hst.1 _ _) (starsAny hst.2)
              | exact pe_callTy hc f1 f2 hv E1.pa f3 f4 (noStar_each hst.1 _ _) (starsAny hst.2)
          exact pe_imp run fun σ H Q ⟨ρ, S, P, xp, re, rs, hm, f, fx⟩ => rA_of re rs hm fx fun vs S1 p1 H1 ys st rs1 _ _ rv => ⟨S1, vs, P, rs1, rv, p1, f.after st⟩
      exact ⟨pe, pt_of pe fun _ => rfl⟩
    · cases h
  | .mth m o es, sc, X, x, g, h => by
    unfold chkE at h
    split at h
    · rename_i eo y xs e1
      obtain ⟨apos, pos, rfl, hl⟩ := dMeth_eq e1
      simp only [Bool.and_eq_true, decide_eq_true_eq] at h
      obtain ⟨h1, h2, h3, h4, h5⟩ := h
      subst h1
      have E1 := sndEs es g h5
      have pe : PE X (.Call (.Attribute eo (mtN m) apos) xs [] pos) (rE X.K ca W (ev C (.mth m o es))) := by
        cases xs with
        | nil =>
          cases E1
          exact pe_mth0 (k := 0) g.room (sndE o g h4).1 (notSuper_base h2 _ _ _) hl
        | cons e1 es1 => exact pe_mth (k := 0) g.room (sndE o g h4).1 E1.pa E1.stars h3 (notSuper_base h2 _ _ _) hl
      exact ⟨pe, pt_of pe fun _ => rfl⟩
    · cases h
  | .isi a t, sc, X, x, g, h => by
    unfold chkE at h
    split at h
    · rename_i y ea ez e1
      obtain ⟨p, pos, rfl⟩ := dCall_eq e1
      simp only [Bool.and_eq_true, decide_eq_true_eq] at h
      obtain ⟨h1, h2, h3, h4, h5⟩ := h
      subst h1
      obtain ⟨f1, f2, f3, f4⟩ := g.fr h2
      split at h3
      · rename_i n e2
        obtain ⟨pz, rfl⟩ := dName_eq e2
        rw [Bool.and_eq_true] at h3
        have hn := of_decide_eq_true h3.1
        subst hn
        obtain ⟨g1, g2, g3, g4⟩ := g.fr h3.2
        have tyE : PE X (.Name (tyN t) pz) (tC (.ty (tyS t))) := pe_bltn (u := .type (tyS t)) g1 g2 (by cases t <;> decide +kernel) rfl g3 g4
        have pe : PE X (.Call (.Name "isinstance" p) [ea, .Name (tyN t) pz] [] pos) (rE X.K ca W (ev C (.isi a t))) :=
          pe_imp (pe_callB (snd_isi (ca := ca) t) f1 f2 (by decide +kernel) (pa_cons (sndE a g h5).1 (pa_cons tyE pa_nil rfl) (noStar_each h4 _ _)) f3 f4 (noStar_each h4 _ _) rfl) fun σ H Q ⟨ρ, S, P, xp, re, rs, hm, f, fx⟩ =>
            rE_of re rs hm fx fun v S1 p1 H1 y st rs1 _ _ rv => ⟨S1, v, y, P, rfl, rs1, rv, p1, f.after st⟩
        exact ⟨pe, pt_of pe fun _ => rfl⟩
      · cases h3
    · cases h
  | .kin neg a y kvs, sc, X, x, g, h => by
    unfold chkE at h
    split at h
    · rename_i ea o ez e1
      obtain ⟨p, rfl⟩ := dCmp_eq e1
      simp only [Bool.and_eq_true, Bool.not_eq_true'] at h
      obtain ⟨h1, h0, h2, h3⟩ := h
      split at h3
      · rename_i n e2
        obtain ⟨pz, rfl⟩ := dName_eq e2
        simp only [Bool.and_eq_true, decide_eq_true_eq] at h3
        obtain ⟨rfl, k1, k2, k3⟩ := h3
        obtain ⟨d1, d2, _⟩ := plainB_ok k2
        obtain ⟨d, es, n, hm0, D, at0⟩ := g.dic y kvs k3
        have pg : PE X (.Name y pz) (tC (.ref d)) := pe_glob (g.gl k1) hm0 rfl d1
        have run : ∀ (m : Bool → Bool) (σ : L2.St) (H : Hp) (Q : VK), (neg = false → m = id) → rE X.K ca W (fun ρ S P XX => ev C a ρ S (fun v S1 => ∃ z, v = .str z ∧ P (.bl (m (kvs.lookup z).isSome)) S1) XX) σ H Q →
            tOp (fun x y H Q => ∃ (z : Str) (r : Option Value), x = .str z ∧ y = .ref d ∧ PySem.W.nsIn X.K d z = some r ∧ Q (.bl (m r.isSome)) H) (rE X.K ca W (ev C a)) (tC (.ref d)) σ H Q := fun m σ H Q _ ⟨ρ, S, P, xp, re, rs, hm, f, fx⟩ =>
          rE_of re rs hm fx fun v S1 ⟨z, ez, p1⟩ H1 y st rs1 re1 _ rv => by
            subst ez
            cases rv
            obtain ⟨r, r1, r2⟩ := at0.isSome z
            exact ⟨z, r, rfl, rfl, r1, f _ _ p1 _ _ st rs1 (by rw [r2]; exact .bl _)⟩
        cases neg with
        | false =>
          have ho : o = .In := by cases o <;> first | rfl | cases h1
          subst ho
          have pe : PE X (.Compare ea [.In] [.Name y pz] p) (rE X.K ca W (ev C (.kin false a y kvs))) := pe_imp (pe_cmpR (op_in_kd D) (sndE a g h2).1 pg h0) fun σ H Q q => run id σ H Q (fun _ => rfl) q
          refine ⟨pe, pt_imp (pt_cmpR (op_in_kd D) (sndE a g h2).1 pg h0) ?_⟩
          rintro σ H Q ⟨ρ, S, P, xp, re, rs, hm, f, fx⟩
          refine rE_of (m := ev C a) re rs hm fx fun v S1 ⟨z, ez, b, eb, p1⟩ H1 y st rs1 re1 _ rv => ?_
          subst ez
          cases rv
          obtain ⟨r, r1, r2⟩ := at0.isSome z
          injection eb with eb
          subst eb
          exact ⟨z, r, rfl, rfl, r1, _, rfl, by rw [r2]; exact f _ _ p1 _ st rs1⟩
        | true =>
          have ho : o = .NotIn := by cases o <;> first | rfl | cases h1
          subst ho
          have pe : PE X (.Compare ea [.NotIn] [.Name y pz] p) (rE X.K ca W (ev C (.kin true a y kvs))) := pe_imp (pe_cmpR (op_notIn_kd D) (sndE a g h2).1 pg h0) fun σ H Q q => run not σ H Q (fun z => nomatch z) q
          refine ⟨pe, pt_imp (pt_cmpR (op_notIn_kd D) (sndE a g h2).1 pg h0) ?_⟩
          rintro σ H Q ⟨ρ, S, P, xp, re, rs, hm, f, fx⟩
          refine rE_of (m := ev C a) re rs hm fx fun v S1 ⟨z, ez, b, eb, p1⟩ H1 y st rs1 re1 _ rv => ?_
          subst ez
          cases rv
          obtain ⟨r, r1, r2⟩ := at0.isSome z
          injection eb with eb
          subst eb
          exact ⟨z, r, rfl, rfl, r1, _, rfl, by rw [r2]; exact f _ _ p1 _ st rs1⟩
      · cases h3
    · cases h
  | .kix y kvs a, sc, X, x, g, h => by
    unfold chkE at h
    split at h
    · rename_i ez ea e1
      obtain ⟨p, rfl⟩ := dSub_eq e1
      simp only [Bool.and_eq_true] at h
      obtain ⟨h1, h2, h3⟩ := h
      split at h3
      · rename_i n e2
        obtain ⟨pz, rfl⟩ := dName_eq e2
        simp only [Bool.and_eq_true, decide_eq_true_eq] at h3
        obtain ⟨rfl, k1, k2, k3⟩ := h3
        obtain ⟨d1, d2, _⟩ := plainB_ok k2
        obtain ⟨d, es, n, hm0, D, at0⟩ := g.dic y kvs k3
        have pg : PE X (.Name y pz) (tC (.ref d)) := pe_glob (g.gl k1) hm0 rfl d1
        have pe : PE X (.Subscript (.Name y pz) ea p) (rE X.K ca W (ev C (.kix y kvs a))) := pe_imp (pe_ix (ix_kd D) pg (sndE a g h2).1 (noSl_ix h1)) fun σ H Q ⟨ρ, S, P, xp, re, rs, hm, f, fx⟩ =>
          rE_of (m := ev C a) re rs hm fx fun v S1 ⟨z, w, ez, ew, p1⟩ H1 y st rs1 re1 _ rv => by
            subst ez
            cases rv
            have := at0 z
            rw [ew] at this
            obtain ⟨u, xv, r1, r2, r3⟩ := this
            exact ⟨z, u, xv, rfl, rfl, r1, r2, f _ _ p1 _ _ st rs1 (r3 _)⟩
        exact ⟨pe, pt_of pe fun _ => rfl⟩
      · cases h3
    · cases h
  | .lvals a, sc, X, x, g, h => by
    unfold chkE at h
    split at h
    · rename_i y ea e1
      obtain ⟨p, pos, rfl⟩ := dCall_eq e1
      simp only [Bool.and_eq_true, decide_eq_true_eq, Bool.not_eq_true'] at h
      obtain ⟨hot, h1, h2, h3, h4⟩ := h
      subst h1
      obtain ⟨f1, f2, f3, f4⟩ := g.fr h2
      split at h4
      · rename_i eo m e2
        obtain ⟨apos, cpos, rfl, hl⟩ := dMeth_eq e2
        simp only [Bool.and_eq_true, decide_eq_true_eq] at h4
        obtain ⟨k1, k2, k3⟩ := h4
        subst k1
        have pe : PE X (.Call (.Name "list" p) [.Call (.Attribute eo "values" apos) [] [] cpos] [] pos) (rE X.K ca W (ev C (.lvals a))) :=
          pe_imp (pe_listVals (g.calm hot) (sndE a g k3).1 f1 f2 (by decide +kernel) (notSuper_base k2 _ _ _) hl (noStar_each h3 _ _)) fun σ H Q ⟨ρ, S, P, xp, re, rs, hm, f, fx⟩ =>
            rE_of (m := ev C a) re rs hm fx fun v S1 ⟨d, kvs, en, ed, ak, p1⟩ H1 y st rs1 _ _ rv => by
              subst en
              cases rv
              rcases rs1 d _ ed with ⟨t, eh, rd⟩ | ⟨t, eh, rd⟩
              · exact ⟨_, t, rfl, .inl eh, (f.after st).lst rs1 p1 rd.valsA⟩
              · cases rd with
                | nil => exact ⟨_, [], rfl, .inr ⟨rfl, eh⟩, (f.after st).lst rs1 p1 .nil⟩
                | @cons k0 _ _ _ _ _ q1 _ _ =>
                  unfold allK at ak
                  rw [List.all_cons, Bool.and_eq_true] at ak
                  exfalso
                  have z := ak.1
                  unfold keyK at z
                  cases k0 <;> simp [kOf, ktOf] at q1 z
        exact ⟨pe, pt_of pe fun _ => rfl⟩
      · cases h4
    · cases h
  | .lrng a, sc, X, x, g, h => by
    unfold chkE at h
    split at h
    · rename_i y ea e1
      obtain ⟨p, pos, rfl⟩ := dCall_eq e1
      simp only [Bool.and_eq_true, decide_eq_true_eq, Bool.not_eq_true'] at h
      obtain ⟨hot, h1, h2, h3, h4⟩ := h
      subst h1
      obtain ⟨f1, f2, f3, f4⟩ := g.fr h2
      split at h4
      · rename_i r eb e2
        obtain ⟨pb, posb, rfl⟩ := dCall_eq e2
        simp only [Bool.and_eq_true, decide_eq_true_eq] at h4
        obtain ⟨k1, k2, k3, k4⟩ := h4
        subst k1
        obtain ⟨g1, g2, g3, g4⟩ := g.fr k2
        have pe : PE X (.Call (.Name "list" p) [.Call (.Name "range" pb) [eb] [] posb] [] pos) (rE X.K ca W (ev C (.lrng a))) :=
          pe_imp (pe_listRg (g.calm hot) f1 f2 (prg_1 g1 g2 (sndE a g k4).1 (noStar_each k3 _ _)) (noStar_each h3 _ _)) fun σ H Q ⟨ρ, S, P, xp, re, rs, hm, f, fx⟩ =>
            rE_of (m := ev C a) re rs hm fx fun v S1 ⟨n, en, n0, n1, p1⟩ H1 y st rs1 _ _ rv => by
              subst en
              cases rv
              refine ⟨n, rfl, ⟨by omega, by omega, by omega, by omega, by omega⟩, ?_⟩
              have er : rgV 0 n = (List.range n.toNat).map fun i => V.int (0 + (i : Nat)) := by unfold rgV; rw [Int.sub_zero]
              rw [er]
              refine (f.after st).lst rs1 p1 ?_
              unfold rngL
              have : ∀ l : List Nat, RVs X.K H1 (l.map fun i => Val.int (0 + (i : Nat))) (l.map fun i => V.int (0 + (i : Nat))) := by
                intro l
                induction l with
                | nil => exact .nil
                | cons i l ih => exact .cons (.int _) ih
              exact this _
        exact ⟨pe, pt_of pe fun _ => rfl⟩
      · cases h4
    · cases h
  | .isx a one cs xs, sc, X, x, g, h => by
    unfold chkE at h
    split at h
    · rename_i y ea ez e1
      obtain ⟨p, pos, rfl⟩ := dCall_eq e1
      simp only [Bool.and_eq_true, decide_eq_true_eq] at h
      obtain ⟨h1, h2, hcs, h4, h5, h6⟩ := h
      subst h1 hcs
      obtain ⟨f1, f2, f3, f4⟩ := g.fr h2
      obtain ⟨hxs, st, pz⟩ := isxB_ok g h6
      have pe : PE X (.Call (.Name "isinstance" p) [ea, ez] [] pos) (rE X.K ca W (ev C (.isx a one G.exs xs))) :=
        pe_imp (pe_callB (snd_isx (ca := ca) (xs := xs) g.exn.xc g.exn.kits hxs) f1 f2 (by decide +kernel) (pa_cons (sndE a g h5).1 (pa_cons pz pa_nil (noStar_each st _ _)) (noStar_each h4 _ _)) f3 f4 (noStar_each h4 _ _) (starsAny (by rw [List.all_cons, st]; rfl))) fun σ H Q ⟨ρ, S, P, xp, re, rs, hm, f, fx⟩ =>
          rE_of (m := ev C a) re rs hm fx fun v S1 p1 H1 y st rs1 re1 _ rv => by
            cases one with
            | true =>
              obtain ⟨x0, ex⟩ := isx_one h6
              exact ⟨x0, ex, S1, v, y, _, P, rfl, rs1, rv, p1, f.after st, .inl ⟨x0, ex, rfl⟩⟩
            | false =>
              intro tp hn
              have tk : TupK X.K H1 (upd H1 tp (.tup (xs.map (clsW X.K)))) := tupK_upd (noneFix hn)
              exact ⟨S1, v, y, _, P, rfl, rs1.keep hn, rv.mono tk, p1, f.after (st.trans (.new0 hn)), .inr ⟨tp, rfl, upd_same⟩⟩
      exact ⟨pe, pt_of pe fun _ => rfl⟩
    · cases h
  | .xfld a cs f, sc, X, x, g, h => by
    unfold chkE at h
    split at h
    · rename_i ea n e1
      obtain ⟨p, rfl⟩ := dAttr_eq e1
      simp only [Bool.and_eq_true, decide_eq_true_eq] at h
      obtain ⟨h1, h2, h3, h4, h5⟩ := h
      subst h1 h2
      have pe : PE X (.Attribute ea f p) (rE X.K ca W (ev C (.xfld a G.exs f))) := pe_imp (pe_xfld (sndE a g h5).1 (notSuper_base h3 _ _ _)) fun σ H Q ⟨ρ, S, P, xp, re, rs, hm, f1, fx⟩ =>
        rE_of (m := ev C a) re rs hm fx fun v S1 ⟨c, w, ev1, hc, hf, p1⟩ H1 y st rs1 re1 _ rv => by
          subst ev1
          cases rv with
          | exn0 e => exact (hf rfl).elim
          | @exn1 _ _ _ a d y0 n e ed q => exact ⟨a, c, d, y0, rfl, e, ed, (g.exn.xc c hc).f, g.exn.no c hc f h4 hf, f1 _ _ p1 _ _ st rs1 q⟩
      exact ⟨pe, pt_of pe fun _ => rfl⟩
    · cases h
  | .fld c a f, sc, X, x, g, h => by
    unfold chkE at h
    split at h
    · rename_i ea n e1
      obtain ⟨p, rfl⟩ := dAttr_eq e1
      simp only [Bool.and_eq_true, decide_eq_true_eq] at h
      obtain ⟨h1, h3, h4, h5⟩ := h
      subst h1
      split at h4
      · rename_i fs e2
        have cl := g.cls c fs e2
        have pe : PE X (.Attribute ea f p) (rE X.K ca W (ev C (.fld c a f))) := pe_imp (pe_fld (sndE a g h5).1 (notSuper_base h3 _ _ _)) fun σ H Q ⟨ρ, S, P, xp, re, rs, hm, f1, fx⟩ =>
          rE_of (m := ev C a) re rs hm fx fun v S1 ⟨q, fv, w, ev1, hs, hl, p1⟩ H1 y st rs1 re1 _ rv => by
            subst ev1
            cases rv
            obtain ⟨dx, t, eh, rf⟩ := rs1 q _ hs
            obtain ⟨y1, l1, r1⟩ := rf.look hl
            exact ⟨q, _, dx, t, y1, rfl, eh, cl.cls, cl.no f (by simpa using h4), l1, f1 _ _ p1 _ _ st rs1 r1⟩
        exact ⟨pe, pt_of pe fun _ => rfl⟩
      · cases h4
    · cases h
  | .new c f es, sc, X, x, g, h => by
    unfold chkE at h
    split at h
    · rename_i y xs e1
      obtain ⟨p, pos, rfl⟩ := dCall_eq e1
      simp only [Bool.and_eq_true, decide_eq_true_eq, Bool.not_eq_true'] at h
      obtain ⟨hot, h0, h1, h2, h3, h4, h5⟩ := h
      subst h0
      obtain ⟨d1, d2, _⟩ := plainB_ok h3
      cases e2 : G.T[f]? with
      | none => rw [e2] at h1; cases h1
      | some fn =>
        rw [e2] at h1
        obtain ⟨hcl, hnm⟩ : fn.cls = some c ∧ fn.name = ("__init__" : Str) := Prod.mk.inj (Option.some.inj h1)
        obtain ⟨a, fd, ps, pl, hb, F⟩ := g.fn f fn e2
        unfold PlaceOk at pl
        rw [hcl, hnm] at pl
        obtain ⟨ea, me⟩ := pl
        obtain ⟨fs, e3⟩ := lookup_mem h4
        have cl := g.cls c fs e3
        subst ea
        have E1 := sndEs es g h5
        have pe : PE X (.Call (.Name c p) xs [] pos) (rE X.K ca W (ev C (.new c f es))) := pe_imp (pe_makeS (E := WE W) cl.mak F (g.cr hot) (g.gl h2) cl.at_ hb (fun σ => L2N.passAt g.tk σ) E1.pa E1.nil0 E1.stars d1) fun σ H Q ⟨ρ, S, P, xp, re, rs, hm, f1, fx⟩ =>
          rA_of re rs hm fx fun vs S1 p1 H1 ys st rs1 _ _ rv => fun q dx nq nd ne => by
            have r2 : RS X.K ca (upd H1 dx (.own q)) S1 := rs1.keep nd
            have nq2 : (upd H1 dx (.own q)) q = none := by rw [upd_ne (Ne.symm ne)]; exact nq
            have t1 : TupK X.K H1 (upd H1 dx (.own q)) := tupK_upd (noneFix nd)
            have t2 : TupK X.K (upd H1 dx (.own q)) (upd (upd H1 dx (.own q)) q (.ins (He.ga X.K c) dx [])) := tupK_upd (noneFix nq2)
            have st2 : Step S1 H1 (S1.put q (.ins c [])) (upd (upd H1 dx (.own q)) q (.ins (He.ga X.K c) dx [])) := (Step.new0 nd).trans (.new1 r2 nq2)
            exact ⟨_, .ref q :: vs, _, xp, r2.put (o := .ins c []) (noneFix nq2) ⟨dx, [], upd_same, .nil⟩, .cons (.ref q) ((rv.mono t1).mono t2), p1 q (rs1.fresh nq),
              fun v S2 ⟨ev1, p2⟩ H2 z st3 rs3 rz => by
                subst ev1
                cases rz
                exact ⟨rfl, f1 (.ref q) S2 p2 H2 (.ref q) ((st.trans st2).trans st3) rs3 (.ref q)⟩,
              fun x S' p H' cls d s r e => fx x S' p H' cls d ((st.trans st2).trans s) r e⟩
        exact ⟨pe, pt_of pe fun _ => rfl⟩
    · cases h
  | .met c m f o es, sc, X, x, g, h => by
    unfold chkE at h
    split at h
    · rename_i eo y xs e1
      obtain ⟨apos, pos, rfl, hl⟩ := dMeth_eq e1
      simp only [Bool.and_eq_true, decide_eq_true_eq, Bool.not_eq_true'] at h
      obtain ⟨hot, h0, h1, hlen, h2, h3, h4, h5⟩ := h
      subst h0
      cases e2 : G.T[f]? with
      | none => rw [e2] at h1; cases h1
      | some fn =>
        rw [e2] at h1
        obtain ⟨hcl, hnm⟩ : fn.cls = some c ∧ fn.name = m := Prod.mk.inj (Option.some.inj h1)
        obtain ⟨a, fd, ps, pl, hb, F⟩ := g.fn f fn e2
        unfold PlaceOk at pl
        rw [hcl, hnm] at pl
        obtain ⟨ea, me⟩ := pl
        obtain ⟨fs, e3⟩ := lookup_mem h3
        have cl := g.cls c fs e3
        have E1 := sndEs es g h5
        have pe : PE X (.Call (.Attribute eo m apos) xs [] pos) (rE X.K ca W (ev C (.met c m f o es))) := pe_imp (pe_methS (E := WE W) (sndE o g h4).1 cl.cls me F ((g.cr hot).mono (Nat.le_succ _)) hb (fun σ => L2N.passAt g.tk σ) E1.pa E1.nil0 E1.stars hlen (notSuper_base h2 _ _ _) hl) fun σ H Q ⟨ρ, S, P, xp, re, rs, hm, f1, fx⟩ =>
          rE_of (m := ev C o) re rs hm fx fun v S1 ⟨q, fv, ev1, hs, hlk, p1⟩ H1 y st rs1 re1 _ rv => by
            subst ev1
            cases rv
            obtain ⟨dx, t, eh, rf⟩ := rs1 q _ hs
            refine ⟨q, dx, t, rfl, eh, rf.lookN hlk, ?_⟩
            exact rA_of re1 rs1 p1 (fx.after st) fun vs S2 p2 H2 ys st2 rs2 _ tk2 rvs =>
              ⟨S2, .ref q :: vs, P, xp, rs2, .cons (.ref q) rvs, p2, f1.after (st.trans st2), fun x S' p H' cls d s r e => fx x S' p H' cls d ((st.trans st2).trans s) r e⟩
        exact ⟨pe, pt_of pe fun _ => rfl⟩
    · cases h
  | .lc own tg one it c el, sc, X, x, g, h => by
    unfold chkE at h
    split at h
    · rename_i elt t iter ifs scope e1
      obtain ⟨pos, rfl⟩ := dLc_eq e1
      simp only [Bool.and_eq_true, Bool.not_eq_true'] at h
      obtain ⟨hot, h1, h2, h3, h4, h5, h6⟩ := h
      have ow : (own.map fun i => (X.N.getD i Str.empty, i)).map (·.2) = own := by rw [List.map_map]; exact List.map_id' own
      have ok := blkOk_by h1
      rw [← g.n, ← g.sc] at ok
      have many : (!one) = true → ∃ elts kk p, t = .Tuple elts kk p := fun z => by
        have z : one = false := by simpa using z
        subst z
        unfold tgE at h3
        simp only at h3
        split at h3
        · rename_i es e2
          obtain ⟨kk, p, e2⟩ := dTup_eq e2
          exact ⟨es, kk, p, e2⟩
        · cases h3
      have pe := pe_lc (wi := rI X.K ca W (evIt C it)) (g := gOf X.K (lcTg one tg)) (tt := rC X.K ca W0 (evc C c)) (te := rE X.K ca W0 (ev C el)) (elt := elt) (pos := pos) (g.calm hot) (by rw [g.n]; exact g.nd) (sndIt it g h4 many) ok (fun s H D cl fp => tgE_ok hot g h3 s H cl D fp) (fun s H D cl fp => sndC c (g.blk s H scope cl D fp) h5) (fun s H D cl fp => (sndE el (g.blk s H scope cl D fp) h6).1) (chkIt_fold h4)
      have own' : ∀ i ∈ tgL (lcTg one tg), i ∈ own := by
        intro i hi
        have h2 := List.all_eq_true.mp h2
        unfold lcTg at hi
        cases one with
        | false => simpa using h2 i hi
        | true =>
          unfold tgE at h3
          simp only [Bool.and_eq_true, decide_eq_true_eq] at h3
          match tg, h3, hi, h2 with
          | [j], _, hi, h2 => simp [tgL] at hi; subst hi; simpa using h2 i (by simp)
      have pe2 : PE X (.ListComp elt [⟨t, iter, ifs, 0⟩] scope pos) (rE X.K ca W (ev C (.lc own tg one it c el))) := pe_imp pe fun σ H Q q => by
        rw [ow]
        exact lc_run own' q
      exact ⟨pe2, pt_of pe2 fun _ => rfl⟩
    · cases h
theorem sndEs {G : Glo} {C : CallSem} {ca : Nat → Addr} {W : WX} {k : Nat} {N : List Str} : ∀ (es : Es) {sc : Scope} {X : Cx} {xs : List Expr}, Good G C ca W k N sc X → chkEs G N sc es xs = true → Each X ca W C es xs
  | .nil, sc, X, [], g, h => .nil
  | .nil, sc, X, _ :: _, g, h => by cases h
  | .cons e es, sc, X, [], g, h => by cases h
  | .cons e es, sc, X, x :: xs, g, h => by
    unfold chkEs at h
    simp only [Bool.and_eq_true] at h
    obtain ⟨h1, h2, h3⟩ := h
    obtain ⟨i1, i2⟩ := sndE e g h2
    exact .cons h1 i1 i2 (sndEs es g h3)
theorem sndO {G : Glo} {C : CallSem} {ca : Nat → Addr} {W : WX} {k : Nat} {N : List Str} : ∀ (o : Eo) {sc : Scope} {X : Cx} {x : Option Expr}, Good G C ca W k N sc X → chkO G N sc o x = true → PO X x (rO X.K ca W (evo C o))
  | .no, sc, X, none, g, h => po_imp po_none fun σ H Q ⟨ρ, S, P, xp, re, rs, hm, f, fx⟩ => f none S hm H .refl rs
  | .no, sc, X, some _, g, h => by cases h
  | .yes e, sc, X, none, g, h => by cases h
  | .yes e, sc, X, some x, g, h => by
    unfold chkO at h
    exact po_imp (po_some (sndE e g h).1) fun σ H Q ⟨ρ, S, P, xp, re, rs, hm, f, fx⟩ => rE_of re rs hm fx fun v S1 ⟨i, ei, p1⟩ H1 y st rs1 _ _ rv => by
      subst ei
      cases rv
      exact ⟨i, rfl, f _ _ p1 _ st rs1⟩
theorem sndC {G : Glo} {C : CallSem} {ca : Nat → Addr} {W : WX} {k : Nat} {N : List Str} : ∀ (o : Eo) {sc : Scope} {X : Cx} {x : List Expr}, Good G C ca W k N sc X → chkC G N sc o x = true → PTs X x (rC X.K ca W (evc C o))
  | .no, sc, X, [], g, h => pts_imp pts_nil fun σ H Q ⟨ρ, S, P, xp, re, rs, hm, f, fx⟩ => f true S hm H .refl rs
  | .no, sc, X, _ :: _, g, h => by cases h
  | .yes e, sc, X, [], g, h => by cases h
  | .yes e, sc, X, _ :: _ :: _, g, h => by cases h
  | .yes e, sc, X, [x], g, h => by
    unfold chkC at h
    exact pts_imp (pts_one (sndE e g h).2) fun σ H Q q => q
theorem sndIt {G : Glo} {C : CallSem} {ca : Nat → Addr} {W : WX} {k : Nat} {N : List Str} : ∀ (it : It) {sc : Scope} {X : Cx} {x tg : Expr} {many : Bool}, Good G C ca W k N sc X → chkIt G N sc many it x = true → (many = true → ∃ elts kk p, tg = .Tuple elts kk p) → PI X tg x (rI X.K ca W (evIt C it))
  | .seq a, sc, X, x, tg, many, g, h, hm => by
    unfold chkIt at h
    rw [Bool.and_eq_true] at h
    exact pi_imp (pi_seq (sndE a g h.1).1) fun σ H R ⟨ρ, S, P, xp, re, rs, hm, f, fx⟩ => rE_of re rs hm fx fun v S1 p1 H1 y st rs1 _ _ rv => seqRun rs1 p1 rv fun w p J j => f w S1 p H1 J st rs1 j
  | .keys a, sc, X, x, tg, many, g, h, hm => by
    unfold chkIt at h
    rw [Bool.and_eq_true] at h
    exact pi_imp (pi_keys (sndE a g h.1).1) fun σ H R ⟨ρ, S, P, xp, re, rs, hm, f, fx⟩ => rE_of (m := ev C a) re rs hm fx fun v S1 ⟨d, kvs, o, t, ed, e, p1⟩ H1 y st rs1 _ _ rv => by
      subst ed
      cases rv
      obtain ⟨eh, rd⟩ := rs1 d _ e
      exact ⟨d, o, rfl, .inl ⟨t, eh, f _ S1 p1 H1 _ st rs1 (jok_k d kvs o t)⟩⟩
  | .rng1 a, sc, X, x, tg, many, g, h, hm => by
    unfold chkIt at h
    split at h
    · rename_i y ea e1
      obtain ⟨p, pos, rfl⟩ := dCall_eq e1
      simp only [Bool.and_eq_true, decide_eq_true_eq] at h
      obtain ⟨h1, h2, h3, h4⟩ := h
      subst h1
      obtain ⟨f1, f2, f3, f4⟩ := g.fr h2
      exact pi_imp (pi_range1 f1 f2 (pa_cons (sndE a g h4).1 pa_nil (noStar_each h3 _ _)) (noStar_each h3 _ _)) fun σ H R ⟨ρ, S, P, xp, re, rs, hm, f, fx⟩ => rE_of re rs hm fx fun v S1 ⟨n, en, sm, p1⟩ H1 y st rs1 _ _ rv => by
        subst en
        cases rv
        exact ⟨n, rfl, sm.1, sm.2, f _ S1 p1 H1 _ st rs1 (jok_rng 0 _)⟩
    · cases h
  | .rng2 a b, sc, X, x, tg, many, g, h, hm => by
    unfold chkIt at h
    split at h
    · rename_i y ea eb e1
      obtain ⟨p, pos, rfl⟩ := dCall_eq e1
      simp only [Bool.and_eq_true, decide_eq_true_eq] at h
      obtain ⟨h1, h2, h3, h3b, h4, h5⟩ := h
      subst h1
      obtain ⟨f1, f2, f3, f4⟩ := g.fr h2
      have s2 := noStar_each h3b [] X.env
      exact pi_imp (pi_range2 f1 f2 (pa_cons (sndE a g h4).1 (pa_cons (sndE b g h5).1 pa_nil s2) (noStar_each h3 _ _)) (by rw [noStar_each h3, s2]; rfl) s2) fun σ H R ⟨ρ, S, P, xp, re, rs, hm, f, fx⟩ =>
        rE_of re rs hm fx fun v S1 p1 H1 y st rs1 re1 _ rv => rE_of re1 rs1 p1 (fx.after st) fun w S2 ⟨m, n, em, en, sm, sn, p2⟩ H2 z st2 rs2 _ tk2 rw => by
          subst em
          subst en
          cases rv
          cases rw
          exact ⟨m, n, rfl, ⟨sm.1, sm.2, sn.1, sn.2⟩, f _ S2 p2 H2 _ (st.trans st2) rs2 (jok_rng m _)⟩
    · cases h
  | .rev a, sc, X, x, tg, many, g, h, hm => by
    unfold chkIt at h
    split at h
    · rename_i y ea e1
      obtain ⟨p, pos, rfl⟩ := dCall_eq e1
      simp only [Bool.and_eq_true, decide_eq_true_eq] at h
      obtain ⟨h1, h2, h3, h4⟩ := h
      subst h1
      obtain ⟨f1, f2, f3, f4⟩ := g.fr h2
      exact pi_imp (RT.pi_revA f1 f2 (sndE a g h4).1 (noStar_each h3 _ _)) fun σ H R ⟨ρ, S, P, xp, re, rs, hm, f, fx⟩ => rE_of re rs hm fx fun v S1 p1 H1 y st rs1 _ _ rv => revItRun rs1 rv p1 fun w p J j => f w S1 p H1 J st rs1 j
    · cases h
  | .revr a, sc, X, x, tg, many, g, h, hm => by
    unfold chkIt at h
    split at h
    · rename_i y ea e1
      obtain ⟨p, pos, rfl⟩ := dCall_eq e1
      simp only [Bool.and_eq_true, decide_eq_true_eq] at h
      obtain ⟨h1, h2, h3, h4⟩ := h
      subst h1
      obtain ⟨f1, f2, f3, f4⟩ := g.fr h2
      split at h4
      · rename_i r eb e2
        obtain ⟨pb, posb, rfl⟩ := dCall_eq e2
        simp only [Bool.and_eq_true, decide_eq_true_eq] at h4
        obtain ⟨k1, k2, k3, k4⟩ := h4
        subst k1
        obtain ⟨g1, g2, g3, g4⟩ := g.fr k2
        exact pi_imp (pi_revR f1 f2 (prg_1 g1 g2 (sndE a g k4).1 (noStar_each k3 _ _)) (noStar_each h3 _ _)) fun σ H R ⟨ρ, S, P, xp, re, rs, hm, f, fx⟩ => rE_of re rs hm fx fun v S1 ⟨n, en, sm, p1⟩ H1 y st rs1 _ _ rv => by
          subst en
          cases rv
          have j := jok_rngr (K := X.K) (ca := ca) (H0 := H1) n.toNat
          exact ⟨n, rfl, by decide, by decide, sm.1, sm.2, by rw [Int.sub_zero]; exact f _ S1 p1 H1 _ st rs1 j⟩
      · cases h4
    · cases h
  | .enum a, sc, X, x, tg, many, g, h, hm => by
    unfold chkIt at h
    rw [Bool.and_eq_true] at h
    obtain ⟨hmn, h⟩ := h
    obtain ⟨elts, kk, tp, rfl⟩ := hm hmn
    split at h
    · rename_i y ea e1
      obtain ⟨p, pos, rfl⟩ := dCall_eq e1
      simp only [Bool.and_eq_true, decide_eq_true_eq] at h
      obtain ⟨h1, h2, h3, h4⟩ := h
      subst h1
      obtain ⟨f1, f2, f3, f4⟩ := g.fr h2
      exact pi_imp (pi_enumA f1 f2 (sndE a g h4).1 (noStar_each h3 _ _)) fun σ H R ⟨ρ, S, P, xp, re, rs, hm, f, fx⟩ => rE_of re rs hm fx fun v S1 p1 H1 y st rs1 _ _ rv => enumRun rs1 rv p1 fun w p J j => f w S1 p H1 J st rs1 j
    · cases h
  | .zip2 a b, sc, X, x, tg, many, g, h, hm => by
    unfold chkIt at h
    rw [Bool.and_eq_true] at h
    obtain ⟨hmn, h⟩ := h
    obtain ⟨elts, kk, tp, rfl⟩ := hm hmn
    split at h
    · rename_i y ea eb e1
      obtain ⟨p, pos, rfl⟩ := dCall_eq e1
      simp only [Bool.and_eq_true, decide_eq_true_eq] at h
      obtain ⟨h1, h2, h3, h3b, h4, h5⟩ := h
      subst h1
      obtain ⟨f1, f2, f3, f4⟩ := g.fr h2
      have s2 := noStar_each h3b [] X.env
      exact pi_imp (RZ.pi_zipA f1 f2 (pa_cons (sndE a g h4).1 (pa_cons (sndE b g h5).1 pa_nil s2) (noStar_each h3 _ _)) (noStar_each h3 _ _) (by rw [s2]; rfl)) fun σ H R ⟨ρ, S, P, xp, re, rs, hm, f, fx⟩ =>
        rE_of re rs hm fx fun v S1 p1 H1 y st rs1 re1 _ rv => rE_of re1 rs1 p1 (fx.after st) fun w S2 p2 H2 z st2 rs2 _ tk2 rw =>
          zipRun rs2 (rv.mono tk2) rw p2 fun w p J j => f w S2 p H2 J (st.trans st2) rs2 j
    · cases h
  | .zip3 a b c, sc, X, x, tg, many, g, h, hm => by
    unfold chkIt at h
    rw [Bool.and_eq_true] at h
    obtain ⟨hmn, h⟩ := h
    obtain ⟨elts, kk, tp, rfl⟩ := hm hmn
    split at h
    · rename_i y ea eb ec e1
      obtain ⟨p, pos, rfl⟩ := dCall_eq e1
      simp only [Bool.and_eq_true, decide_eq_true_eq] at h
      obtain ⟨h1, h2, h3, h3b, h3c, h4, h5, h6⟩ := h
      subst h1
      obtain ⟨f1, f2, f3, f4⟩ := g.fr h2
      have s2 := noStar_each h3c [] X.env
      have s1 := noStar_each h3b [ec] X.env
      exact pi_imp (pi_zip3 f1 f2 (pa_cons (sndE a g h4).1 (pa_cons (sndE b g h5).1 (pa_cons (sndE c g h6).1 pa_nil s2) s1) (noStar_each h3 _ _)) (noStar_each h3 _ _) (by rw [s1, s2]; rfl)) fun σ H R ⟨ρ, S, P, xp, re, rs, hm, f, fx⟩ =>
        rE_of re rs hm fx fun v S1 p1 H1 y st rs1 re1 _ rv => rE_of re1 rs1 p1 (fx.after st) fun w S2 p2 H2 z st2 rs2 re2 tk2 rw => rE_of re2 rs2 p2 (fx.after (st.trans st2)) fun u S3 p3 H3 z3 st3 rs3 _ tk3 ru =>
          zip3Run rs3 ((rv.mono tk2).mono tk3) (rw.mono tk3) ru p3 fun w p J j => f w S3 p H3 J ((st.trans st2).trans st3) rs3 j
    · cases h
end
end FW

set_option Elab.async false
set_option linter.all false
set_option maxRecDepth 100000
/-! What chkS accepts keeps the promise of exs; defs. -/
namespace FW
open PySem PySem.Spec PyProof.Rows L2
section
variable {W : WX} {xp : Env → XP} {K : PySem.W.Frag} {ca : Nat → Addr} {S S1 : Sto} {H H1 : Hp}
theorem FinN.after {P : Env → Sto → Prop} {Q : L2.St → Hp → Prop} (f : FinN K ca S H P Q) (st : Step S H S1 H1) : FinN K ca S1 H1 P Q := fun ρ S' p H' σ s r e => f ρ S' p H' σ (st.trans s) r e
theorem rS_of {m : MS} {nx : Env → Sto → Prop} {rt : VP} {D : Ends} {ρ : Env} {σ : L2.St} (re : RE K H ρ σ) (rs : RS K ca H S) (h : m ρ S ⟨nx, rt, xp⟩)
    (f : ∀ ρ1 S1, nx ρ1 S1 → ∀ H1 σ1, Step S H S1 H1 → RS K ca H1 S1 → TupK K H H1 → RE K H1 ρ1 σ1 → D.nx σ1 H1) (g : FinP K ca S H rt D.rt) (fx : FinXS K ca W S H xp) : rS K ca W m D σ H :=
  ⟨ρ, S, nx, rt, xp, re, rs, h, (fun ρ1 S1 p H1 σ1 st rs1 re1 => f ρ1 S1 p H1 σ1 st rs1 (st.tup rs) re1), g, fx⟩
/-- while -/
theorem while_run {mc : M1} {mb : MS} {D : Ends} {σ : L2.St} (h : rS K ca W (fun ρ S D => ∃ n, whileL (fun ρ S K => mc ρ S (fun v S1 => ∃ t, v = .bl t ∧ K t S1) (D.xp ρ)) (fun ρ S K => mb ρ S { D with nx := K }) D.nx n ρ S) D σ H) :
    tWhile (rT K ca W mc) (rS K ca W mb) D σ H := by
  obtain ⟨ρ, S, nx, rt, xp, re, rs, ⟨n, hm⟩, f, g, fx⟩ := h
  refine ⟨fun m σ' H' => ∃ ρ' S', RE K H' ρ' σ' ∧ RS K ca H' S' ∧ Step S H S' H' ∧ whileL (fun ρ S K => mc ρ S (fun v S1 => ∃ t, v = .bl t ∧ K t S1) (xp ρ)) (fun ρ S K => mb ρ S ⟨K, rt, xp⟩) nx m ρ' S', ⟨n, ρ, S, re, rs, .refl, hm⟩, ?_⟩
  rintro m σ' H' ⟨ρ', S', re', rs', st', w⟩
  cases m with
  | zero => exact w.elim
  | succ m =>
    refine rT_of (m := mc) re' rs' w ((fx.after st').here re' rs') fun b S1 p H1 st1 rs1 re1 tk1 => ?_
    have st2 := st'.trans st1
    cases b
    · rw [if_neg (by simp)]
      exact f ρ' S1 p H1 σ' st2 rs1 re1
    · rw [if_pos rfl]
      refine ⟨fun σ3 H3 => ∃ ρ3 S3, RE K H3 ρ3 σ3 ∧ RS K ca H3 S3 ∧ Step S H S3 H3 ∧ whileL (fun ρ S K => mc ρ S (fun v S1 => ∃ t, v = .bl t ∧ K t S1) (xp ρ)) (fun ρ S K => mb ρ S ⟨K, rt, xp⟩) nx m ρ3 S3, fun σ3 H3 q => ⟨m, Nat.lt_succ_self m, q⟩, ?_⟩
      exact rS_of (rt := rt) re1 rs1 p (fun ρ3 S3 q H3 σ3 st3 rs3 _ re3 => ⟨ρ3, S3, re3, rs3, st2.trans st3, q⟩) (g.after st2) (fx.after st2)
/-- for -/
theorem for_run {mi : MI} {mb : MS} {tg : Tg} {D : Ends} {σ : L2.St} (h : rS K ca W (fun ρ S D => mi ρ S (fun w S1 => forL w.ok tg (fun ρ S K => mb ρ S { D with nx := K }) D.nx w.xs ρ S1) (D.xp ρ)) D σ H) :
    tFor (rI K ca W mi) (gOf K tg) (rS K ca W mb) D σ H := by
  obtain ⟨ρ, S, nx, rt, xp, re, rs, hm, f, g, fx⟩ := h
  refine ⟨ρ, S, _, xp ρ, re, rs, hm, (fun w S1 p H1 J st rs1 jok => ?_), fx.here re rs⟩
  have tk1 := st.tup rs
  refine ⟨fun i m σ' H' => ∃ ρ' S', i ≤ w.xs.length ∧ m = w.xs.length - i ∧ RE K H' ρ' σ' ∧ RS K ca H' S' ∧ Step S1 H1 S' H' ∧ forL w.ok tg (fun ρ S K => mb ρ S ⟨K, rt, xp⟩) nx (w.xs.drop i) ρ' S',
    ⟨w.xs.length, ρ, S1, Nat.zero_le _, rfl, re.mono tk1, rs1, .refl, p⟩, ?_⟩
  rintro i m σ' H' ⟨ρ', S', hi, rfl, re', rs', st', lp⟩
  have tk' := st'.tup rs1
  by_cases hlt : i < w.xs.length
  · refine .inr ?_
    rw [List.drop_eq_getElem_cons hlt] at lp
    obtain ⟨ok, lp⟩ := lp
    obtain ⟨go, yl⟩ := (jok i H' S' tk' rs' ok).2 hlt
    refine ⟨go, fun σ3 H3 => ∃ ρ3 S3, RE K H3 ρ3 σ3 ∧ RS K ca H3 S3 ∧ Step S1 H1 S3 H3 ∧ forL w.ok tg (fun ρ S K => mb ρ S ⟨K, rt, xp⟩) nx (w.xs.drop (i + 1)) ρ3 S3,
      fun σ3 H3 ⟨ρ3, S3, a, b, c, d⟩ => ⟨w.xs.length - (i + 1), by omega, ρ3, S3, hlt, rfl, a, b, c, d⟩, fun x H2 y => ?_⟩
    obtain ⟨v, hv, rv, rs2, st2⟩ := yl x H2 y
    rw [List.getElem?_eq_getElem hlt] at hv
    cases hv
    have st3 := st'.trans st2
    refine gOf_run (re'.mono (st2.tup rs')) rv lp fun ρ3 σ3 p3 re3 => ?_
    exact rS_of (rt := rt) re3 rs2 p3 (fun ρ4 S4 q H4 σ4 st4 rs4 _ re4 => ⟨ρ4, S4, re4, rs4, st3.trans st4, q⟩) (g.after (st.trans st3)) (fx.after (st.trans st3))
  · have e : i = w.xs.length := by omega
    rw [e, List.drop_length] at lp
    obtain ⟨ok, lp⟩ := lp
    exact .inl ⟨(jok i H' S' tk' rs' ok).1 e, f ρ' S' lp H' σ' (st.trans st') rs' re'⟩
end
section
variable {G : Glo} {C : CallSem} {ca : Nat → Addr} {W : WX} {k : Nat} {N : List Str} {sc : Scope} {X : Cx}
structure GoodS (G : Glo) (C : CallSem) (ca : Nat → Addr) (W : WX) (k : Nat) (N : List Str) (sc : Scope) (X : Cx) : Prop where
  g : Good G C ca W k N sc X
  fn : ∀ x, X.fn x = true
  kf : sc.kind = .function
  cold : G.hot = false
  stk : X.stack = X.env :: X.outer
  frm : X.env.frame = some X.env.locals
  pass : PassesOwn (model X.prog X.w) X.A X.env X.xe
theorem GoodS.tgs (g : GoodS G C ca W k N sc X) {is : List Nat} {es : List Expr} (h : tgB N sc is es = true) : Tgs X is es :=
  tgs_of (tgB_ok (names := fun _ => True) (fun i x h1 h2 => ⟨by rw [g.g.n]; exact h1, by rw [g.g.sc]; exact locB_ok h2, .inl (g.fn x)⟩) h)
theorem GoodS.nd (g : GoodS G C ca W k N sc X) : X.N.Nodup := by rw [g.g.n]; exact g.g.nd
theorem tgNm_ok (g : GoodS G C ca W k N sc X) {tg : Tg} {e : Expr} (h : tgNm N sc tg e = true) : PG X e (gOf X.K tg) ∧ (isManyT tg = true → ∃ elts kk p, e = .Tuple elts kk p) := by
  cases tg with
  | nm i => exact ⟨tgL_pg g.nd (g.g.calm g.cold) (tg := .nm i) (g.tgs h), fun z => by cases z⟩
  | tp is =>
    unfold tgNm at h
    simp only at h
    split at h
    · rename_i es e1
      obtain ⟨kk, p, e1⟩ := dTup_eq e1
      exact ⟨tgL_pg g.nd (g.g.calm g.cold) (tg := .tp is) ⟨es, kk, p, e1, g.tgs h⟩, fun _ => ⟨es, kk, p, e1⟩⟩
    · cases h
theorem notPairs_sw {t e : Expr} {env : PySem.Env} (h : notPairs e = true) : swappedStores [t] e env = pure none := by
  cases e <;> first | (cases t <;> rfl) | cases h
theorem sub_sw {o i e : Expr} {p : Pos} {env : PySem.Env} : swappedStores [.Subscript o i p] e env = pure none := by
  cases e <;> rfl
theorem isLc_sole {t e : Expr} {l : Nat} {env : PySem.Env} (h : isLc e = false) : swapsWithSole [t] e l env = pure false := by
  unfold swapsWithSole
  exact isLc_swap h _ _ _
theorem notLc {e : E} {x : Expr} (h : chkE G N sc e x = true) (n : isLcE e = false) : isLc x = false := by
  cases x <;> first
    | rfl
    | (exfalso
       cases e <;> first
         | (unfold chkE at h; simp [dName, dConst, dBin, dUn, dBool, dCmp, dTup, dLst, dDic, dSub, dCall, dMeth, dAttr] at h; done)
         | cases n)
theorem psSet (g : GoodS G C ca W k N sc X) {i : Nat} {y : Str} {p pos : Pos} {e : E} {ex : Expr} (hy : TgOk X i y) (pe : PE X ex (rE X.K ca W (ev C e))) (hl : isLc ex = false) : PS X (.Assign [.Name y p] ex pos) (rS X.K ca W (ex1 C (.set i e))) :=
  ps_imp (ps_set g.nd hy.1 hy.2.1 pe (isLc_swap hl _ _ _) hy.2.2) fun D σ H ⟨ρ, S, nx, rt, xp, re, rs, hm, f, g1, fx⟩ =>
    rE_of (m := ev C e) re rs hm (fx.here re rs) fun v S1 p H1 y st rs1 re1 _ rv => f _ S1 p H1 _ st rs1 (re1.set rv i)
theorem sw_false {x : Expr} {y : Str} {p : Pos} {l : Nat} {env : PySem.Env} (hy : env.scope.names.lookup y = some .cell) : swapsWith x (some (.Name y p)) l env = pure false := by
  have ky : env.kindOf y = some .cell := hy
  cases x <;> first
    | rfl
    | (unfold swapsWith; simp only [ky]; simp; done)
    | (unfold swapsWith; simp only [ky, Bool.and_false, Bool.false_and, show ((some NameKind.cell == some NameKind.local) = false) from rfl]; try rfl)
theorem psSetC (g : GoodS G C ca W k N sc X) {i : Nat} {y : Str} {p pos : Pos} {e : E} {ex : Expr} (hy : TgOk X i y) (pe : PE X ex (rE X.K ca W (ev C e))) (hc : sc.names.lookup y = some .cell) : PS X (.Assign [.Name y p] ex pos) (rS X.K ca W (ex1 C (.set i e))) :=
  ps_imp (ps_set g.nd hy.1 hy.2.1 pe (sw_false (by rw [g.g.sc]; exact hc)) hy.2.2) fun D σ H ⟨ρ, S, nx, rt, xp, re, rs, hm, f, g1, fx⟩ =>
    rE_of (m := ev C e) re rs hm (fx.here re rs) fun v S1 p H1 y st rs1 re1 _ rv => f _ S1 p H1 _ st rs1 (re1.set rv i)
/-- name = [..]: the comprehension stores itself -/
theorem setLc (g : GoodS G C ca W k N sc X) {i : Nat} {own tg : List Nat} {one : Bool} {it : It} {c : Eo} {el : E} {y : Str} {py spos : Pos} {x : Expr} (hi : N[i]? = some y) (hy : sc.names.lookup y = some .local) (hl : py.line = x.pos.line) (ho : ownsB x y = false)
    (h : chkE G N sc (.lc own tg one it c el) x = true) : PS X (.Assign [.Name y py] x spos) (rS X.K ca W (ex1 C (.set i (.lc own tg one it c el)))) := by
  unfold chkE at h
  split at h
  · rename_i elt t iter ifs scope e1
    obtain ⟨pos, rfl⟩ := dLc_eq e1
    simp only [Bool.and_eq_true, Bool.not_eq_true'] at h
    obtain ⟨hot, h1, h2, h3, h4, h5, h6⟩ := h
    have ow : (own.map fun i => (X.N.getD i Str.empty, i)).map (·.2) = own := by rw [List.map_map]; exact List.map_id' own
    have ok := blkOk_by h1
    rw [← g.g.n, ← g.g.sc] at ok
    have many : (!one) = true → ∃ elts kk p, t = .Tuple elts kk p := fun z => by
      have z : one = false := by simpa using z
      subst z
      unfold tgE at h3
      simp only at h3
      split at h3
      · rename_i es e2
        obtain ⟨kk, p, e2⟩ := dTup_eq e2
        exact ⟨es, kk, p, e2⟩
      · cases h3
    have hyX : X.env.scope.names.lookup y = some .local := by rw [g.g.sc]; exact hy
    have kf : X.env.scope.kind = .function := by rw [g.g.sc]; exact g.kf
    have sw := sw_true (elt := elt) (gs := [⟨t, iter, ifs, 0⟩]) (scope := scope) (pos := pos) (py := py) (l := spos.line) (env := X.env) kf hyX (by have e : py.line = pos.line := hl; rw [e]; exact beq_self_eq_true _) ho
    have ps := ps_setLc (i := i) (py := py) (spos := spos) (wi := rI X.K ca W (evIt C it)) (g := gOf X.K (lcTg one tg)) (tt := rC X.K ca W0 (evc C c)) (te := rE X.K ca W0 (ev C el)) (elt := elt) (pos := pos) (g.g.calm hot) g.nd (by rw [g.g.n]; exact hi) hyX sw
      (sndIt it g.g h4 many) ok (fun s H D cl fp => tgE_ok hot g.g h3 s H cl D fp) (fun s H D cl fp => sndC c (g.g.blk s H scope cl D fp) h5) (fun s H D cl fp => (sndE el (g.g.blk s H scope cl D fp) h6).1) (chkIt_fold h4)
    have own' : ∀ i ∈ tgL (lcTg one tg), i ∈ own := by
      intro i hi
      have h2 := List.all_eq_true.mp h2
      unfold lcTg at hi
      cases one with
      | false => simpa using h2 i hi
      | true =>
        unfold tgE at h3
        simp only [Bool.and_eq_true, decide_eq_true_eq] at h3
        match tg, h3, hi, h2 with
        | [j], _, hi, h2 => simp [tgL] at hi; subst hi; simpa using h2 i (by simp)
    refine ps_imp ps fun D σ H ⟨ρ, S, nx, rt, xp, re, rs, hm, f, g1, fx⟩ => ?_
    rw [ow]
    refine lc_run own' ?_
    exact rE_of (m := ev C (.lc own tg one it c el)) re rs hm (fx.here re rs) fun v S1 p H1 y st rs1 re1 _ rv => f _ S1 p H1 _ st rs1 (re1.set rv i)
  · cases h
end
/-- a statement under the lock of a dict -/
theorem ps_lck {W : WX} {X : Cx} {ca : Nat → Addr} {st : Stmt} {m : MS} {i : Nat} (h : PS X st (rS X.K ca W m)) : PS X st (rS X.K ca W fun ρ S D => ∃ d kvs, ρ[i]? = some (some (.ref d)) ∧ S d = some (.dic kvs) ∧ allK kvs = true ∧ ∀ o t, m ρ (S.put d (.dlk kvs o t)) ⟨fun ρ1 S1 => S1 d = some (.dlk kvs o t) ∧ D.nx ρ1 (S1.put d (.dic kvs)), fun v S1 => S1 d = some (.dlk kvs o t) ∧ D.rt v (S1.put d (.dic kvs)), fun _ _ _ => False⟩) := by
  refine ⟨fun pins s σ H D I hw => ?_⟩
  obtain ⟨ρ, S, nx, rt, xp, re, rs, ⟨d, kvs, hi, e, ha, hm⟩, f, g, fx⟩ := hw
  have nn : S d ≠ none := by rw [e]; exact fun z => nomatch z
  have as_ : ∃ H1 t, Inv X pins σ H1 s ∧ RS X.K ca H1 S ∧ Step S H S H1 ∧ H1 d = some (.dK t) ∧ RD X.K H1 kOf kvs t := by
    rcases rs d _ e with ⟨t, q, r⟩ | ⟨t, q, r⟩
    · exact ⟨H, t, I, rs, .refl, q, r⟩
    · have hn : kvs = [] := by
        cases kvs with
        | nil => rfl
        | cons p r' =>
          have h1 := RD.isSome r
          have h2 : keyT p.1 = true := (Bool.and_eq_true_iff.mp (by rw [List.all_cons] at h1; exact h1)).1
          have h3 : keyK p.1 = true := (Bool.and_eq_true_iff.mp (by unfold allK at ha; rw [List.all_cons] at ha; exact ha)).1
          rw [kt_apart h3] at h2; cases h2
      subst hn
      cases r
      have nf : ∀ v, H d = some v → Fix v = false := fun v z => by rw [q] at z; cases z; rfl
      refine ⟨_, [], Inv.asK I q, ?_, ?_, upd_same, .nil⟩
      · have := rs.put (o := .dic []) (u := .dK []) nf (.inl ⟨[], upd_same, .nil⟩)
        rw [put_id e] at this; exact this
      · have := Step.wr (S := S) (H := H) (o := .dic []) (u := .dK []) nn
        rw [put_id e] at this; exact this
  obtain ⟨H1, t, I1, rs1, st1, hd, rd⟩ := as_
  have mu : Mut (some (HO.dK t)) := trivial
  obtain ⟨od, I2⟩ := I1.lock hd mu
  have nf1 : ∀ v, H1 d = some v → Fix v = false := fun v z => by rw [hd] at z; cases z; rfl
  have tk2 : TupK X.K H1 (upd H1 d (.frz od (.dK t))) := tupK_upd nf1
  have rs2 : RS X.K ca (upd H1 d (.frz od (.dK t))) (S.put d (.dlk kvs od t)) := rs1.put nf1 ⟨upd_same, rd.mono tk2⟩
  have st2 : Step S H (S.put d (.dlk kvs od t)) (upd H1 d (.frz od (.dK t))) := st1.trans (.wr nn)
  have re2 : RE X.K (upd H1 d (.frz od (.dK t))) ρ σ := (re.mono (st1.tup rs)).mono tk2
  -- unlocked again
  have back : ∀ (S' : Sto) (H' : Hp), Step (S.put d (.dlk kvs od t)) (upd H1 d (.frz od (.dK t))) S' H' → RS X.K ca H' S' → S' d = some (.dlk kvs od t) →
      H' d = some (.frz od (.dK t)) ∧ Step S H (S'.put d (.dic kvs)) (upd H' d (.dK t)) ∧ RS X.K ca (upd H' d (.dK t)) (S'.put d (.dic kvs)) ∧ TupK X.K H' (upd H' d (.dK t)) := fun S' H' st rs' e' => by
    obtain ⟨eh, rd'⟩ := rs' d _ e'
    have nf : ∀ v, H' d = some v → Fix v = false := fun v z => by rw [eh] at z; cases z; rfl
    exact ⟨eh, (st2.trans st).trans (.wr (by rw [e']; exact fun z => nomatch z)), rs'.put nf (.inl ⟨t, upd_same, rd'.mono (tupK_upd nf)⟩), tupK_upd nf⟩
  refine thn (h.run pins s σ _ ⟨fun σ' H' => H' d = some (.frz od (.dK t)) ∧ D.nx σ' (upd H' d (.dK t)), fun v H' => H' d = some (.frz od (.dK t)) ∧ D.rt v (upd H' d (.dK t)), fun _ _ => False, fun _ _ => False⟩ I2
    ⟨ρ, S.put d (.dlk kvs od t), _, _, _, re2, rs2, hm od t, (fun ρ1 S' ⟨e1, p1⟩ H' σ' st rs' re' => ?_), (fun v S' ⟨e1, p1⟩ H' x st rs' rv => ?_), FinXS.never⟩) fun fl s1 q => ?_
  · obtain ⟨k1, k2, k3, k4⟩ := back S' H' st rs' e1
    exact ⟨k1, f ρ1 _ p1 _ σ' k2 k3 (re'.mono k4)⟩
  · obtain ⟨k1, k2, k3, k4⟩ := back S' H' st rs' e1
    exact ⟨k1, g v _ p1 _ x k2 k3 (rv.mono k4)⟩
  · cases fl with
    | next => obtain ⟨σ', H', I3, e3, q⟩ := q; exact ⟨σ', _, I3.unlock e3 (I1.nofrz hd mu), q⟩
    | brk => obtain ⟨_, _, _, q⟩ := q; exact q.elim
    | cont => obtain ⟨_, _, _, q⟩ := q; exact q.elim
    | ret v => obtain ⟨x, σ', H', I3, r, e3, q⟩ := q; exact ⟨x, σ', _, I3.unlock e3 (I1.nofrz hd mu), r, q⟩
/-! ### raise, try -/
theorem passLN {X : Cx} : Passes (L2N.CX X.prog X.w) X (fun _ _ _ => False) := fun _ _ _ _ _ _ _ h => by
  obtain ⟨_, _, _, _, _, _, _, _, _, _, _, _, z⟩ := h
  exact z.elim

section
variable {G : Glo} {C : CallSem} {ca : Nat → Addr} {W : WX} {k : Nat} {N : List Str} {sc : Scope} {X : Cx}
theorem snd_raise (g : GoodS G C ca W (k + 1) N sc X) {c f : Str} {e : Eo} {x : Expr} {pos : Pos} (h : raiseB G N sc c f e x = true) (he : ∀ (e1 : E) (ex : Expr), chkE G N sc e1 ex = true → PE X ex (rE X.K ca W (ev C e1))) :
    PS X (.Raise (some x) none pos) (rS X.K ca W (ex1 C (.raise c f e))) := by
  unfold raiseB at h
  split at h
  · rename_i y a e1
    obtain ⟨p, cpos, rfl⟩ := dCall_eq e1
    simp only [Bool.and_eq_true, decide_eq_true_eq] at h
    obtain ⟨h1, h2, h3, h4, h5, h6⟩ := h
    subst h1
    obtain ⟨d1, _, _⟩ := plainB_ok h3
    have calm := g.g.calm g.cold
    have mem := exs_mem h4
    cases e with
    | no =>
      simp only [Bool.and_eq_true, decide_eq_true_eq] at h6
      obtain ⟨hf, h6⟩ := h6
      subst hf
      split at h6
      · rename_i m e2
        obtain ⟨kk, p2, rfl⟩ := dConst_eq e2
        obtain ⟨q1, q2, q3, q4⟩ := He.exc_ok (g.g.exn.r0 c h4)
        refine ps_imp (L2N.ps_raise calm g.g.tk (L2N.pmk_own PySem.F.excBase_ValueError q1 (g.g.exn.at_ c mem) q2 (raises_own q3 q4) (g.g.gl h2) d1)) fun D σ H ⟨ρ, S, nx, rt, xp, re, rs, hm, f1, g1, fx⟩ => ?_
        exact fx.here re rs _ S hm H _ none .refl rs ⟨rfl, .inl ⟨rfl, rfl, rfl⟩⟩
      · cases h6
    | yes e1 =>
      simp only [Bool.and_eq_true, decide_eq_true_eq] at h6
      obtain ⟨hf, h6⟩ := h6
      obtain ⟨T, fd, ps, hb, F⟩ := g.g.exn.r1 c f h4 hf
      refine ps_imp (L2N.ps_raise calm g.g.tk (pmk_ini T F ((g.g.cr g.cold).mono (by omega)) hb passLN (g.g.gl h2) (g.g.exn.at_ c mem) (he e1 a h6) h5 d1)) fun D σ H ⟨ρ, S, nx, rt, xp, re, rs, hm, f1, g1, fx⟩ => ?_
      exact rE_of (m := ev C e1) re rs hm (fx.here re rs) fun v S1 p1 H1 y st rs1 re1 _ rv => fun d nd => by
        have tk : TupK X.K H1 (upd H1 d (.xd [(f, y)])) := tupK_upd (noneFix nd)
        exact fx.here re rs _ S1 p1 _ _ (some d) (st.trans (.new0 nd)) (rs1.keep nd) ⟨rfl, .inr ⟨d, y, rfl, hf, upd_same, rv.mono tk⟩⟩
  · cases h
/-- an except suite -/
theorem Good.suite (g : Good G C ca W k N sc X) (a : Addr) (pn : List (Addr × Obj)) : Good G.inHot C ca W0 k N sc (X.suite a pn) :=
  ⟨takes0N, g.n, g.sc, g.nd, (fun z => nomatch z), ⟨g.room.un⟩, (fun z => nomatch z), g.con, g.free, g.dic, g.fn, g.cls, ⟨g.exn.kits, g.exn.xc, g.exn.at_, g.exn.exm, g.exn.r0, g.exn.r1, g.exn.no⟩⟩
theorem Good.tr (g : Good G C ca W k N sc X) {W2 : WX} {pn : List (Addr × Obj)} {xe : Value → Shared → Prop} (tk : L2N.Takes (X.tr pn xe) W2) : Good G C ca W2 k N sc (X.tr pn xe) :=
  ⟨tk, g.n, g.sc, g.nd, g.calm, g.room, g.cr, g.con, g.free, g.dic, g.fn, g.cls, g.exn⟩
end
mutual
theorem sndH1 {G : Glo} {C : CallSem} {ca : Nat → Addr} {W : WX} {k : Nat} {N : List Str} : ∀ (s : St1) {sc : Scope} {X : Cx} {x : Stmt}, Good G.inHot C ca W k N sc X → (∀ x, X.fn x = true) → chkH1 G N sc s x = true → PS X x (rS X.K ca W (ex1 C s))
  | .set i e, sc, X, x, g, fn, h => by
    unfold chkH1 at h
    split at h
    · rename_i t ex pos e1
      have e1 := dAsg_eq e1
      subst e1
      simp only [Bool.and_eq_true, Bool.not_eq_true'] at h
      obtain ⟨h1, h2, h3⟩ := h
      cases tgs_of (X := X) (tgB_ok (names := fun _ => True) (fun i x h1 h2 => ⟨by rw [g.n]; exact h1, by rw [g.sc]; exact locB_ok h2, .inl (fn x)⟩) h1) with
      | @cons _ y p _ _ hy _ =>
        exact ps_imp (ps_set (by rw [g.n]; exact g.nd) hy.1 hy.2.1 (sndE e g h2).1 (isLc_swap h3 _ _ _) hy.2.2) fun D σ H ⟨ρ, S, nx, rt, xp, re, rs, hm, f, g1, fx⟩ =>
          rE_of (m := ev C e) re rs hm (fx.here re rs) fun v S1 p H1 y st rs1 re1 _ rv => f _ S1 p H1 _ st rs1 (re1.set rv i)
    · cases h
  | .drop e, sc, X, x, g, fn, h => by
    unfold chkH1 at h
    split at h
    · rw [Bool.and_eq_true, Bool.not_eq_true'] at h
      exact ps_imp (ps_expr (sndE e g h.2).1 (isLc_swap h.1 _ _ _)) fun D σ H ⟨ρ, S, nx, rt, xp, re, rs, hm, f, g1, fx⟩ => rE_of (m := ev C e) re rs hm (fx.here re rs) fun v S1 p H1 y st rs1 re1 _ rv => f ρ S1 p H1 σ st rs1 re1
    · cases h
  | .ite c a b, sc, X, x, g, fn, h => by
    unfold chkH1 at h
    split at h
    · simp only [Bool.and_eq_true] at h
      obtain ⟨h1, h2, h3⟩ := h
      exact ps_imp (ps_if (sndE c g h1).2 (sndHs a g fn h2) (sndHs b g fn h3)) fun D σ H ⟨ρ, S, nx, rt, xp, re, rs, hm, f, g1, fx⟩ =>
        rT_of (P := fun t S1 => if t then exs C a ρ S1 ⟨nx, rt, xp⟩ else exs C b ρ S1 ⟨nx, rt, xp⟩) re rs hm (fx.here re rs) fun t S1 p H1 st rs1 re1 _ => by
          cases t
          · exact ⟨ρ, S1, nx, rt, xp, re1, rs1, p, FinN.after f st, g1.after st, fx.after st⟩
          · exact ⟨ρ, S1, nx, rt, xp, re1, rs1, p, FinN.after f st, g1.after st, fx.after st⟩
    · cases h
  | .unp _ _, _, _, _, _, _, h => by cases h
  | .sub _ _ _, _, _, _, _, _, h => by cases h
  | .wh _ _, _, _, _, _, _, h => by cases h
  | .for_ _ _ _, _, _, _, _, _, h => by cases h
  | .ret _, _, _, _, _, _, h => by cases h
  | .retN, _, _, _, _, _, h => by cases h
  | .raise _ _ _, _, _, _, _, _, h => by cases h
  | .att _ _ _ _, _, _, _, _, _, h => by cases h
  | .try_ _ _ _ _ _, _, _, _, _, _, h => by cases h
  | .lks _ _, _, _, _, _, _, h => by cases h
theorem sndHs {G : Glo} {C : CallSem} {ca : Nat → Addr} {W : WX} {k : Nat} {N : List Str} : ∀ (s : Sts) {sc : Scope} {X : Cx} {x : List Stmt}, Good G.inHot C ca W k N sc X → (∀ x, X.fn x = true) → chkHs G N sc s x = true → PSs X x (rS X.K ca W (exs C s))
  | .nil, sc, X, [], g, fn, h => pss_imp pss_nil fun D σ H ⟨ρ, S, nx, rt, xp, re, rs, hm, f, g1, fx⟩ => f ρ S hm H σ .refl rs re
  | .nil, sc, X, _ :: _, g, fn, h => by cases h
  | .cons s r, sc, X, [], g, fn, h => by cases h
  | .cons s r, sc, X, x :: xs, g, fn, h => by
    unfold chkHs at h
    rw [Bool.and_eq_true] at h
    exact pss_imp (pss_cons (sndH1 s g fn h.1) (sndHs r g fn h.2)) fun D σ H ⟨ρ, S, nx, rt, xp, re, rs, hm, f, g1, fx⟩ =>
      rS_of (D := { D with nx := _ }) re rs hm (fun ρ1 S1 p H1 σ1 st rs1 _ re1 => ⟨ρ1, S1, nx, rt, xp, re1, rs1, p, FinN.after f st, g1.after st, fx.after st⟩) g1 fx
end
section
variable {G : Glo} {C : CallSem} {ca : Nat → Addr} {W : WX} {k : Nat} {N : List Str} {sc : Scope} {X : Cx}
theorem re_setN {K : PySem.W.Frag} {H : Hp} {ρ : Env} {σ : L2.St} (re : RE K H ρ σ) (i : Nat) : RE K H (ρ.set i none) (σ.set i none) := by
  refine ⟨by rw [List.length_set, List.length_set]; exact re.len, fun j v e => ?_⟩
  by_cases h : i = j
  · subst h
    by_cases hl : i < ρ.length
    · rw [List.getElem?_set_self hl] at e; cases e
    · rw [List.getElem?_eq_none (by rw [List.length_set]; omega)] at e; cases e
  · rw [List.getElem?_set_ne h] at e ⊢
    exact re.get j v e
theorem snd_try (g : GoodS G C ca W k N sc X) {b hd : Sts} {x : Str} {i : Option Nat} {nm : Option Str} {body suite : List Stmt} {b₀ : Stmt} {np pos pos' : Pos} (h2 : gloB sc x = true) (h3 : plainB x = true) (hx : x ∈ G.exs) (hn : exName N sc i nm = true)
    (hb : ∀ (W2 : WX) (X2 : Cx), GoodS G C ca W2 k N sc X2 → PSs X2 body (rS X2.K ca W2 (exs C b))) (hh : chkHs G N sc hd (b₀ :: suite) = true) :
    PS X (.Try body [.ExceptHandler (some (.Name x np)) nm (b₀ :: suite) pos'] [] [] pos) (rS X.K ca W (ex1 C (.try_ b x G.exs i hd))) := by
  obtain ⟨d1, _, _⟩ := plainB_ok h3
  refine ps_imp (ps_tryF (j := i) (c := .ref (He.ga X.K x)) g.stk g.frm g.nd ?_ ⟨g.g.gl h2, d1, .inl (g.g.exn.at_ x hx)⟩ g.g.tk (tb := fun W2 => rS X.K ca W2 (exs C b)) (ts := rS X.K ca W0 (exs C hd))
    (fun W2 pn xe tk ps => hb W2 _ ⟨g.g.tr tk, g.fn, g.kf, g.cold, g.stk, g.frm, ps⟩) (fun a pn => sndHs hd (g.g.suite a pn) g.fn hh)) fun D σ H ⟨ρ, S, nx, rt, xp, re, rs, hm, f, g1, fx⟩ => ?_
  · unfold exName at hn
    split at hn
    · simp only [Bool.and_eq_true, decide_eq_true_eq] at hn
      exact ⟨by rw [g.g.n]; exact hn.1, by show X.env.scope.names.lookup _ = _; rw [g.g.sc]; exact hn.2⟩
    · trivial
    · cases hn
  · refine ⟨ρ, S, nx, rt, _, re, rs, hm, f, g1, fun ρ1 σ1 S1 H1 st1 rs1 re1 => ?_⟩
    rintro e S2 ⟨hc, p⟩ H2 cls d st2 rs2 ⟨ec, ex⟩
    refine ⟨isSub e.c x, by rw [ec]; exact g.g.exn.exm e.c hc x hx, fun hs => ⟨e.c, ec, fun a na => ?_⟩, fun hs => ?_⟩
    · rw [if_pos hs] at p
      have tk : TupK X.K H2 (upd H2 a (EX X.K e.c a d)) := tupK_upd (noneFix na)
      have tk1 := st2.tup rs1
      have rvx : RV X.K (upd H2 a (EX X.K e.c a d)) (.exn e.c e.f e.v) (.ref a) := by
        obtain ⟨c, ef, v⟩ := e
        rcases ex with ⟨rfl, rfl, rfl⟩ | ⟨dd, y, rfl, hf, hd, rv⟩
        · exact .exn0 upd_same
        · exact .exn1 hf upd_same (tk.x _ _ hd) (rv.mono tk)
      have st3 : Step S H S2 (upd H2 a (EX X.K e.c a d)) := (st1.trans st2).trans (.new0 na)
      have re3 := (re1.mono tk1).mono tk
      refine ⟨inE i e ρ1, S2, _, rt, fun _ => XN, ?_, rs2.keep na, p, fun ρ4 S4 p4 H4 σ4 st4 rs4 re4 => ?_, g1.after st3, .never⟩
      · cases i with
        | none => exact re3
        | some i => exact re3.set rvx i
      · cases i with
        | none => exact f ρ4 S4 p4 H4 σ4 (st3.trans st4) rs4 re4
        | some i => exact f _ S4 p4 H4 _ (st3.trans st4) rs4 (re_setN re4 i)
    · rw [if_neg (by rw [hs]; simp)] at p
      exact fx ρ1 σ1 S1 H1 st1 rs1 re1 e S2 p H2 cls d st2 rs2 ⟨ec, ex⟩
end
set_option maxHeartbeats 1000000
mutual
theorem sndS {G : Glo} {C : CallSem} {ca : Nat → Addr} {k : Nat} {N : List Str} : ∀ (s : St1) {W : WX} {sc : Scope} {X : Cx} {x : Stmt}, GoodS G C ca W (k + 1) N sc X → chkS G N sc s x = true → PS X x (rS X.K ca W (ex1 C s))
  | .set i e, W, sc, X, x, g, h => by
    unfold chkS at h
    split at h
    · rename_i t ex pos e1
      have e1 := dAsg_eq e1
      subst e1
      simp only [Bool.and_eq_true, Bool.or_eq_true, Bool.not_eq_true'] at h
      obtain ⟨h1, h2, h3⟩ := h
      cases g.tgs h1 with
      | @cons _ y p _ _ hy _ =>
        rcases h3 with h3 | h3
        · exact psSet g hy (sndE e g.g h2).1 h3
        · simp only [dName, Bool.and_eq_true, Bool.or_eq_true, decide_eq_true_eq, Bool.not_eq_true'] at h3
          have pe := (sndE e g.g h2).1
          rcases h3 with h3 | ⟨h3, h4, h5⟩
          · exact psSetC g hy pe h3
          have hN := hy.1
          rw [g.g.n] at hN
          cases e with
          | lc own tg one it c el => exact setLc g hN h3 h4 h5 h2
          | _ => exact psSet g hy pe (notLc h2 rfl)
    · cases h
  | .unp is e, W, sc, X, x, g, h => by
    unfold chkS at h
    split at h
    · rename_i t ex pos e1
      have e1 := dAsg_eq e1
      subst e1
      split at h
      · rename_i ts e2
        obtain ⟨kk, p2, rfl⟩ := dTup_eq e2
        simp only [Bool.and_eq_true, Bool.not_eq_true'] at h
        obtain ⟨h1, h2, h3, h4⟩ := h
        have pg : PG X (.Tuple ts kk p2) (gOf X.K (.tp is)) := tgL_pg g.nd (g.g.calm g.cold) (tg := .tp is) ⟨ts, kk, p2, rfl, g.tgs h1⟩
        exact ps_imp (ps_asg (sndE e g.g h4).1 pg (isLc_sole h3) (notPairs_sw h2)) fun D σ H ⟨ρ, S, nx, rt, xp, re, rs, hm, f, g1, fx⟩ =>
          rE_of re rs hm (fx.here re rs) fun v S1 p H1 y st rs1 re1 _ rv => gOf_run re1 rv (tg := .tp is) (P := fun ρ' => nx ρ' S1) p fun ρ' σ' p2 re2 => f ρ' S1 p2 H1 σ' st rs1 re2
      · cases h
    · cases h
  | .sub o i e, W, sc, X, x, g, h => by
    unfold chkS at h
    split at h
    · rename_i t ex pos e1
      have e1 := dAsg_eq e1
      subst e1
      split at h
      · rename_i eo ei e2
        obtain ⟨p2, rfl⟩ := dSub_eq e2
        simp only [Bool.and_eq_true, Bool.not_eq_true'] at h
        obtain ⟨h1, h2, h3, h4, h5⟩ := h
        have pg := pg_sub (pos := p2) (sndE o g.g h3).1 (sndE i g.g h4).1 (snd_set (ca := ca) g.g.room) (by intro v; cases ei <;> first | rfl | cases h1)
        exact ps_imp (ps_asg (sndE e g.g h5).1 pg (isLc_sole h2) sub_sw) fun D σ H ⟨ρ, S, nx, rt, xp, re, rs, hm, f, g1, fx⟩ =>
          rE_of re rs hm (fx.here re rs) fun v S1 p1 H1 y st1 rs1 re1 _ rv => rE_of re1 rs1 p1 ((fx.here re rs).after st1) fun vo S2 p2 H2 yo st2 rs2 re2 tk2 rvo => rE_of re2 rs2 p2 ((fx.here re rs).after (st1.trans st2)) fun vi S3 p3 H3 yi st3 rs3 re3 tk3 rvi =>
            ⟨S3, vo, vi, v, fun S4 => nx ρ S4, rs3, rvo.mono tk3, rvi, (rv.mono tk2).mono tk3, p3, fun S4 p4 H4 st4 rs4 => f ρ S4 p4 H4 σ (((st1.trans st2).trans st3).trans st4) rs4 (re3.mono (st4.tup rs3))⟩
      · cases h
    · cases h
  | .drop e, W, sc, X, x, g, h => by
    unfold chkS at h
    split at h
    · rw [Bool.and_eq_true, Bool.not_eq_true'] at h
      exact ps_imp (ps_expr (sndE e g.g h.2).1 (isLc_swap h.1 _ _ _)) fun D σ H ⟨ρ, S, nx, rt, xp, re, rs, hm, f, g1, fx⟩ => rE_of re rs hm (fx.here re rs) fun v S1 p H1 y st rs1 re1 _ rv => f ρ S1 p H1 σ st rs1 re1
    · cases h
  | .ite c a b, W, sc, X, x, g, h => by
    unfold chkS at h
    split at h
    · simp only [Bool.and_eq_true] at h
      obtain ⟨h1, h2, h3⟩ := h
      exact ps_imp (ps_if (sndE c g.g h1).2 (sndSs a g h2) (sndSs b g h3)) fun D σ H ⟨ρ, S, nx, rt, xp, re, rs, hm, f, g1, fx⟩ =>
        rT_of (P := fun t S1 => if t then exs C a ρ S1 ⟨nx, rt, xp⟩ else exs C b ρ S1 ⟨nx, rt, xp⟩) re rs hm (fx.here re rs) fun t S1 p H1 st rs1 re1 _ => by
          cases t
          · exact ⟨ρ, S1, nx, rt, xp, re1, rs1, p, FinN.after f st, g1.after st, fx.after st⟩
          · exact ⟨ρ, S1, nx, rt, xp, re1, rs1, p, FinN.after f st, g1.after st, fx.after st⟩
    · cases h
  | .wh c b, W, sc, X, x, g, h => by
    unfold chkS at h
    split at h
    · rw [Bool.and_eq_true] at h
      exact ps_imp (ps_while g.pass (sndE c g.g h.1).2 (sndSs b g h.2)) fun D σ H q => while_run q
    · cases h
  | .for_ tg it b, W, sc, X, x, g, h => by
    unfold chkS at h
    split at h
    · simp only [Bool.and_eq_true] at h
      obtain ⟨h1, h2, h3⟩ := h
      obtain ⟨pg, many⟩ := tgNm_ok g h1
      exact ps_imp (ps_for g.pass (g.g.calm g.cold) (sndIt it g.g h2 many) pg (sndSs b g h3) (chkIt_fold h2)) fun D σ H q => for_run q
    · cases h
  | .ret e, W, sc, X, x, g, h => by
    unfold chkS at h
    split at h
    · exact ps_imp (ps_ret (sndE e g.g h).1) fun D σ H ⟨ρ, S, nx, rt, xp, re, rs, hm, f, g1, fx⟩ => ⟨ρ, S, rt, xp ρ, re, rs, hm, g1, fx.here re rs⟩
    · cases h
  | .retN, W, sc, X, x, g, h => by
    unfold chkS at h
    split at h
    · exact ps_imp ps_retN fun D σ H ⟨ρ, S, nx, rt, xp, re, rs, hm, f, g1, fx⟩ => g1.val rs hm .non
    · cases h
  | .lks i a, W, sc, X, x, g, h => by
    unfold chkS at h
    exact ps_imp (ps_lck (i := i) (sndS a g h)) fun D σ H ⟨ρ, S, nx, rt, xp, re, rs, hm, f, g1, fx⟩ => ⟨ρ, S, nx, rt, xp, re, rs, hm, f, g1, fx⟩
  | .raise c f e, W, sc, X, x, g, h => by
    unfold chkS at h
    split at h
    · exact snd_raise g h fun e1 ex he => (sndE e1 g.g he).1
    · cases h
  | .att c a f e, W, sc, X, x, g, h => by
    unfold chkS at h
    split at h
    · rename_i t ex pos e1
      have e1 := dAsg_eq e1
      subst e1
      split at h
      · rename_i eo n e2
        obtain ⟨p2, rfl⟩ := dAttr_eq e2
        simp only [Bool.and_eq_true, decide_eq_true_eq, Bool.not_eq_true'] at h
        obtain ⟨h1, h2, h3, h4, h5, h6⟩ := h
        subst h1
        split at h4
        · rename_i fs e3
          have cl := g.g.cls c fs e3
          exact ps_imp (ps_fld (sndE a g.g h5).1 (sndE e g.g h6).1 (isLc_swap h3 _ _ _)) fun D σ H ⟨ρ, S, nx, rt, xp, re, rs, hm, f1, g1, fx⟩ =>
            rE_of (m := ev C e) re rs hm (fx.here re rs) fun v S1 p1 H1 y st1 rs1 re1 _ rv => rE_of (m := ev C a) re1 rs1 p1 ((fx.here re rs).after st1) fun vo S2 ⟨q, fv, ev1, hs, hl, p2⟩ H2 yo st2 rs2 re2 tk2 rvo => by
              subst ev1
              cases rvo
              obtain ⟨dx, t, eh, rf⟩ := rs2 q _ hs
              have nf : ∀ z, H2 q = some z → Fix z = false := fun z w => by rw [eh] at w; cases w; rfl
              have nn : S2 q ≠ none := by rw [hs]; exact fun z => nomatch z
              have tk3 : TupK X.K H2 (upd H2 q (.ins (He.ga X.K c) dx (putF f y t))) := tupK_upd nf
              refine ⟨q, _, dx, t, rfl, eh, cl.cls, cl.no f (by simpa using h4), by rw [← rf.len]; exact hl, ?_⟩
              exact f1 ρ _ p2 _ σ ((st1.trans st2).trans (.wr nn)) (rs2.put nf ⟨dx, _, upd_same, (rf.put (rv.mono tk2)).mono tk3⟩) (re2.mono tk3)
        · cases h4
      · cases h
    · cases h
  | .try_ b xn cs i hd, W, sc, X, x, g, h => by
    unfold chkS at h
    split at h
    · rename_i bd y np nm hs pos' pos
      simp only [Bool.and_eq_true, decide_eq_true_eq, Bool.not_eq_true'] at h
      obtain ⟨h1, h2, h3, h4, h5, h6, h7, h8, h9⟩ := h
      subst h1 h5
      cases hs with
      | nil => simp at h7
      | cons b₀ suite =>
        exact snd_try g h2 h3 (by simpa using h4) h6 (fun W2 X2 g2 => sndSs b g2 h8) h9
    · cases h
theorem sndSs {G : Glo} {C : CallSem} {ca : Nat → Addr} {k : Nat} {N : List Str} : ∀ (s : Sts) {W : WX} {sc : Scope} {X : Cx} {x : List Stmt}, GoodS G C ca W (k + 1) N sc X → chkSs G N sc s x = true → PSs X x (rS X.K ca W (exs C s))
  | .nil, W, sc, X, [], g, h => pss_imp pss_nil fun D σ H ⟨ρ, S, nx, rt, xp, re, rs, hm, f, g1, fx⟩ => f ρ S hm H σ .refl rs re
  | .nil, W, sc, X, _ :: _, g, h => by cases h
  | .cons s r, W, sc, X, [], g, h => by cases h
  | .cons s r, W, sc, X, x :: xs, g, h => by
    unfold chkSs at h
    rw [Bool.and_eq_true] at h
    exact pss_imp (pss_cons (sndS s g h.1) (sndSs r g h.2)) fun D σ H ⟨ρ, S, nx, rt, xp, re, rs, hm, f, g1, fx⟩ =>
      rS_of (D := { D with nx := _ }) re rs hm (fun ρ1 S1 p H1 σ1 st rs1 _ re1 => ⟨ρ1, S1, nx, rt, xp, re1, rs1, p, FinN.after f st, g1.after st, fx.after st⟩) g1 fx
end
end FW

set_option Elab.async false
set_option linter.all false
set_option maxRecDepth 100000
/-! Defs keep their promise; the head's facts. -/
namespace FW
open PySem PySem.Spec PyProof.Rows L2
structure DefOk (G : Glo) (fn : Fn) (d : He.DefD) : Prop where
  nm : d.at_ = match fn.cls with
    | none => (fn.name, none)
    | some c => (c, some fn.name)
  dfl : d.dfl = []
  kwd : d.kwd = []
  sc : FnScope fn.N (fn.N.take fn.np) d.scope
  np : fn.np ≤ fn.N.length
  chk : chkSs G fn.N d.scope fn.body d.body = true
  bind : ∀ (kV doc pm : Value) (an : Option Addr) (cdv ct : Value) (us : List Value), us.length = fn.np → bindArgs (PySem.W.fnOf d.name d.qual d.params d.body d.scope .none kV doc pm an cdv ct) ⟨us, []⟩ = pure ((fn.N.take fn.np).zip us)
def fnScB (N ps : List Str) (sc : Scope) : Bool := (match sc.kind with
  | .function => true
  | _ => false) && (!sc.isCoroutine && (!sc.isGenerator && (decide N.Nodup && (decide (N.take ps.length = ps) && ((ps.all fun x => locB sc x) && sc.names.all fun y => !(y.2 == NameKind.free))))))
theorem fnScB_ok {N ps : List Str} {sc : Scope} (h : fnScB N ps sc = true) : FnScope N ps sc := by
  unfold fnScB at h
  simp only [Bool.and_eq_true, Bool.not_eq_true', decide_eq_true_eq, List.all_eq_true] at h
  obtain ⟨h1, h2, h3, h4, h5, h6, h7⟩ := h
  refine ⟨?_, h2, h3, h4, h5, fun x hx => locB_ok (h6 x hx), fun y hy e => ?_⟩
  · split at h1
    · assumption
    · cases h1
  · have := h7 y hy
    rw [e] at this
    cases this
/-- a class's statements -/
def clsBody : Stmt → List Stmt
  | .ClassDef _ _ _ body _ _ _ _ _ _ _ => body
  | _ => []
/-- the __init__ of a class of exceptions: class, field, def -/
structure IniOk (f : Str) (d : He.DefD) (c : Str) : Prop where
  nm : d.at_ = (c, some ("__init__" : Str))
  dfl : d.dfl = []
  kwd : d.kwd = []
  ex : ∃ n0 n1 : Str, FnScope [n0, n1] [n0, n1] d.scope ∧ bodyB [n0, n1] d.scope f d.body = true ∧
    ∀ (kV doc pm : Value) (an : Option Addr) (cdv ct : Value) (us : List Value), us.length = 2 → bindArgs (PySem.W.fnOf d.name d.qual d.params d.body d.scope .none kV doc pm an cdv ct) ⟨us, []⟩ = pure ([n0, n1].zip us)
abbrev Ini : Type := Str × Str × He.DefD
inductive InisOk : List Ini → Prop
  | nil : InisOk []
  | cons {c f : Str} {d : He.DefD} {r : List Ini} : IniOk f d c → InisOk r → InisOk ((c, f, d) :: r)
theorem InisOk.at : ∀ {l : List Ini} {c f : Str} {d : He.DefD}, InisOk l → (c, f, d) ∈ l → IniOk f d c
  | _, _, _, _, .nil, h => by cases h
  | _, _, _, _, .cons o r, h => by
    rcases List.mem_cons.mp h with e | h
    · cases e; exact o
    · exact r.at h
def inisB (G : Glo) (l : List Ini) : Bool := G.exc.all fun p => decide (p.2 = Str.empty) || l.any fun t => decide (t.1 = p.1) && decide (t.2.1 = p.2)
theorem inisB_ok {G : Glo} {l : List Ini} (h : inisB G l = true) {c f : Str} (e : G.exc.lookup c = some f) (n : f ≠ Str.empty) : ∃ d, (c, f, d) ∈ l := by
  obtain ⟨l1, l2, e2, _⟩ := List.lookup_eq_some_iff.mp e
  have m : (c, f) ∈ G.exc := by rw [e2]; simp
  have q := List.all_eq_true.mp h _ m
  simp only [Bool.or_eq_true, decide_eq_true_eq, List.any_eq_true, Bool.and_eq_true] at q
  rcases q with q | ⟨⟨c', f', d⟩, hm, q1, q2⟩
  · exact (n q).elim
  · dsimp only at q1 q2
    subst q1 q2
    exact ⟨d, hm⟩
/-- what the module is, for a table of defs -/
structure Stands (G : Glo) (w : World) (K : PySem.W.Frag) (mg : Str → Option Value) : Prop where
  con : ∀ x v, G.con.lookup x = some v → ∃ u xv, mg x = some u ∧ RelV xv u ∧ ∀ H, RV K H v xv
  free : ∀ x, G.free.contains x = true → mg x = none
  dic : ∀ x kvs, G.dic.lookup x = some kvs → ∃ d es n, mg x = some (.ref d) ∧ KDict K w d es n ∧ DicAt K d kvs
  defs : ∀ (i : Nat) (fn : Fn), G.T[i]? = some fn → ∃ (d : He.DefD) (a : Addr) (fd : FuncData), DefOk G fn d ∧ PlaceOk K mg fn a ∧ FunD K d.name d.qual d.params d.body d.scope [] [] a fd
  cls : ∀ c fs, G.cls.lookup c = some fs → ClsOk K mg c fs
  kits : Kits K G.exs
  xc : ∀ c ∈ G.exs, XC K (He.ga K c)
  at_ : ∀ c ∈ G.exs, mg c = some (.ref (He.ga K c))
  exm : ∀ c ∈ G.exs, ∀ x ∈ G.exs, PySem.W.exmOne K (.ref (He.ga K c)) (.ref (He.ga K x)) = some (isSub c x)
  r0 : ∀ c, G.exc.lookup c = some Str.empty → (He.Fa.exc c).ok K = true
  r1 : ∀ c f, G.exc.lookup c = some f → f ≠ Str.empty → IniC K (He.ga K c) f ∧ mg "FocusError" = some (.ref (He.ga K "FocusError")) ∧ BaseC K (He.ga K "FocusError") ∧ ∃ (d : He.DefD) (fd : FuncData), IniOk f d c ∧ FunD K d.name d.qual d.params d.body d.scope [] [] (He.ma K (He.ga K c) "__init__") fd
  no : ∀ c ∈ G.exs, ∀ f, (G.exc.map (·.2)).contains f = true → f ≠ Str.empty → PySem.W.findIn K (.ref (He.ga K c)) f = some none
theorem Stands.exn {G : Glo} {P : Program} {w : World} {K : PySem.W.Frag} {mg : Str → Option Value} {base : Heap} (st : Stands G w K mg) : ExnOk P w K mg base G := by
  refine ⟨st.kits, st.xc, st.at_, st.exm, st.r0, fun c f e n => ?_, st.no⟩
  obtain ⟨T, hm, B, d, fd, ⟨_, _, _, n0, n1, S, hb, bd⟩, F⟩ := st.r1 c f e n
  exact ⟨T, fd, [n0, n1], F.bindsN fun kV doc pm an cdv ct us hl => bd kV doc pm an cdv ct us (by rw [hl]; rfl), ini_fn F S hm B T hb⟩
theorem re_start {K : PySem.W.Frag} {H : Hp} {N : List Str} {args : List Val} {vs : List V} (r : RVs K H args vs) : RE K H (args.map some ++ List.replicate (N.length - args.length) none) (L2.start N vs) := by
  unfold L2.start
  refine ⟨by rw [List.length_append, List.length_append, List.length_map, List.length_map, List.length_replicate, List.length_replicate, r.len], fun i v e => ?_⟩
  have hl := r.len
  by_cases hi : i < args.length
  · rw [List.getElem?_append_left (by rw [List.length_map]; exact hi), List.getElem?_map] at e
    cases ea : args[i]? with
    | none => rw [ea] at e; cases e
    | some w =>
      rw [ea] at e
      have e : w = v := by simpa using e
      subst e
      obtain ⟨x, hx, rx⟩ := r.get ea
      refine ⟨x, ?_, rx⟩
      rw [List.getElem?_append_left (by rw [List.length_map]; omega), List.getElem?_map, hx]; rfl
  · rw [List.getElem?_append_right (by rw [List.length_map]; omega)] at e
    rw [List.getElem?_replicate] at e
    split at e <;> cases e
theorem PlaceOk.keep {K : PySem.W.Frag} {mg : Str → Option Value} {fn : Fn} {a : Addr} (p : PlaceOk K mg fn a) : PySem.W.keepIn K (.ref a) = true := by
  unfold PlaceOk at p
  split at p
  · exact p.2
  · exact p.2.kp
theorem fn_all {G : Glo} {P : Program} {w : World} {K : PySem.W.Frag} {mg : Str → Option Value} {base : Heap} {ca : Nat → Addr} (st : Stands G w K mg) (cold : G.hot = false) : ∀ (n i : Nat) (fn : Fn) (d : He.DefD) (a : Addr) (fd : FuncData), G.T[i]? = some fn → DefOk G fn d →
    FunD K d.name d.qual d.params d.body d.scope [] [] a fd → FnOk P w K mg base (L2N.CX P w) (2 * n + 1) a fd (fn.N.take fn.np) (spF K ca (callF G.T n) i)
  | 0, i, fn, d, a, fd, hT, ok, F => ⟨fun vs H Q E h => by obtain ⟨_, _, _, _, _, _, h, _⟩ := h; exact h.elim, fun A outer s H args us vs Q E _ _ _ _ h => by obtain ⟨_, _, _, _, _, _, h, _⟩ := h; exact h.elim⟩
  | n + 1, i, fn, d, a, fd, hT, ok, F => by
    have hps : (fn.N.take fn.np).length = fn.np := by rw [List.length_take]; exact Nat.min_eq_left ok.np
    refine F.ok (k := 2 * n + 2) ok.sc (fun vs H Q E h => ?_) (fun cdv A outer s H vs Q E hr h => ?_)
    · obtain ⟨S, args, P, xp, rs, rv, ⟨fn', h1, h2, _⟩, _⟩ := h
      rw [hT] at h1
      cases h1
      rw [hps, ← rv.len, h2]
    · obtain ⟨S, args, P', xp, rs, rv, ⟨fn', h1, h2, h3⟩, f, fx⟩ := h
      rw [hT] at h1
      cases h1
      refine ⟨rS K ca (fun cls d _ H => E cls d H) (exs (callF G.T n) fn.body), sndSs (G := G) (k := 2 * n) (N := fn.N) (sc := d.scope) fn.body ?_ ok.chk, ?_⟩
      · refine ⟨⟨L2N.takes_of (E := E) rfl rfl rfl rfl, rfl, rfl, ok.sc.nd, fun _ => rfl, .of hr, fun _ => hr, st.con, st.free, st.dic, fun j gn hj => ?_, st.cls, st.exn⟩, fun _ => rfl, ok.sc.kind, cold, rfl, rfl, passes_of rfl⟩
        obtain ⟨d2, a2, fd2, ok2, pl2, F2⟩ := st.defs j gn hj
        have hps2 : (gn.N.take gn.np).length = gn.np := by rw [List.length_take]; exact Nat.min_eq_left ok2.np
        exact ⟨a2, fd2, _, pl2, F2.bindsN fun kV doc pm an cdv ct us hl => ok2.bind kV doc pm an cdv ct us (by rw [hl, hps2]), fn_all st cold n j gn d2 a2 fd2 hj ok2 F2⟩
      · exact ⟨_, S, _, P', fun _ => xp, re_start rv, rs, h3, (fun ρ1 S1 p H1 σ1 st1 rs1 _ => f .non S1 p H1 .non st1 rs1 .non), f, fun ρ' σ' S' H' s r _ x S2 p H2 cls d s2 r2 e => fx x S2 p H2 cls d (s.trans s2) r2 e⟩
/-! ### constants of the module -/
mutual
def conV (K : PySem.W.Frag) : Val → Value → Bool
  | .non, .none => true
  | .bl b, .bool c => b == c
  | .int i, .int j _ => decide (i = j)
  | .str x, .str y _ => decide (x = y)
  | .kt vs, .ref a => (match K.lookup a with
    | some ⟨.type c, none, .seq its _, _⟩ => decide (c = "tuple") && (decide (its.size ≤ sizeLine) && conVs K vs its.toList)
    | _ => false)
  | _, _ => false
def conVs (K : PySem.W.Frag) : List Val → List Value → Bool
  | [], [] => true
  | v :: vs, u :: us => conV K v u && conVs K vs us
  | _, _ => false
end
mutual
theorem conV_ok {K : PySem.W.Frag} : ∀ {v : Val} {u : Value}, conV K v u = true → ∃ xv, RelV xv u ∧ ∀ H, RV K H v xv
  | .non, u, h => by cases u <;> first | exact ⟨.non, rfl, fun H => .non⟩ | cases h
  | .bl b, u, h => by
    cases u <;> first
      | (rename_i c; have e : b = c := eq_of_beq h; subst e; exact ⟨.bl b, rfl, fun H => .bl b⟩)
      | cases h
  | .int i, u, h => by
    cases u <;> first
      | (rename_i j t; have e : i = j := of_decide_eq_true h; subst e; exact ⟨.int i, ⟨t, rfl⟩, fun H => .int i⟩)
      | cases h
  | .str i, u, h => by
    cases u <;> first
      | (rename_i j t; have e : i = j := of_decide_eq_true h; subst e; exact ⟨.str i, ⟨t, rfl⟩, fun H => .str i⟩)
      | cases h
  | .kt vs, u, h => by
    cases u with
    | ref a =>
      unfold conV at h
      split at h
      · rename_i c its n sl e
        simp only [Bool.and_eq_true, decide_eq_true_eq] at h
        obtain ⟨h1, h2, h3⟩ := h
        obtain ⟨xs, r1, r2⟩ := conVs_ok h3
        exact ⟨.ref a, rfl, fun H => .kt ⟨_, its, n, e, congrArg Value.type h1, rfl, rfl, h2, r1⟩ (r2 H)⟩
      · cases h
    | _ => cases h
  | .tup _, u, h => by cases u <;> cases h
  | .scr _, u, h => by cases u <;> cases h
  | .ref _, u, h => by cases u <;> cases h
  | .exn _ _ _, u, h => by cases u <;> cases h
theorem conVs_ok {K : PySem.W.Frag} : ∀ {vs : List Val} {us : List Value}, conVs K vs us = true → ∃ xs, Vals xs us ∧ ∀ H, RVs K H vs xs
  | [], [], h => ⟨[], .nil, fun H => .nil⟩
  | [], _ :: _, h => by cases h
  | _ :: _, [], h => by cases h
  | v :: vs, u :: us, h => by
    unfold conVs at h
    rw [Bool.and_eq_true] at h
    obtain ⟨x, h1, h2⟩ := conV_ok h.1
    obtain ⟨xs, h3, h4⟩ := conVs_ok h.2
    exact ⟨x :: xs, .cons h1 h3, fun H => .cons (h2 H) (h4 H)⟩
end
def conB (K : PySem.W.Frag) (p : Str × Val) : Bool := match PySem.W.nsIn K mainGlobals p.1 with
  | some (some u) => conV K p.2 u
  | _ => false
/-! ### a written dict of the module -/
def dicB (K : PySem.W.Frag) (t : Str × List (Str × Val)) : Bool := (He.Fa.glo t.1).ok K && t.2.all fun q => match PySem.W.nsIn K (He.ga K t.1) q.1 with
  | some (some u) => conV K q.2 u
  | _ => false
theorem keys_none {P : Params} {z : Str} : ∀ {l : List DictEntry} {ks : List Str}, l.map He.keyOf = He.keysIn P ks → z ∉ ks → l.find? (·.key.isStr z) = none ∧ l.any (·.refKey) = false
  | [], _, _, _ => ⟨rfl, rfl⟩
  | e :: r, [], h, _ => by cases h
  | e :: r, k :: ks, h, hz => by
    have h1 : He.keyOf e :: r.map He.keyOf = some (k, PyData.keyHash P k) :: He.keysIn P ks := h
    injection h1 with h2 h3
    obtain ⟨i1, i2⟩ := keys_none h3 (fun q => hz (List.mem_cons_of_mem _ q))
    unfold He.keyOf at h2
    split at h2
    · rename_i x t q
      have h4 := Option.some.inj h2
      obtain ⟨rfl, h6⟩ := Prod.mk.inj h4
      have n1 : e.key.isStr z = false := by
        rw [q]
        show (x == z) = false
        cases b : x == z with
        | false => rfl
        | true => exact absurd (eq_of_beq b ▸ List.mem_cons_self) hz
      have n2 : e.refKey = false := by unfold DictEntry.refKey; rw [q]
      exact ⟨by rw [List.find?_cons, n1]; exact i1, by rw [List.any_cons, n2, i2]; rfl⟩
    · cases h2
theorem dic_at {K : PySem.W.Frag} {w : World} {a : Addr} {kvs : List (Str × Val)} (h : He.dicW K a = some (He.keysIn w.params (kvs.map (·.1))))
    (hv : ∀ q ∈ kvs, ∃ u, PySem.W.nsIn K a q.1 = some (some u) ∧ conV K q.2 u = true) : ∃ es n, KDict K w a es n ∧ DicAt K a kvs := by
  obtain ⟨es, n, D⟩ := He.dicW_ok h
  refine ⟨es, n, D, fun z => ?_⟩
  have hk : es.toList.map He.keyOf = He.keysIn w.params (kvs.map (·.1)) := by
    unfold He.dicW at h
    rw [D.at_] at h
    simp only [D.low, Bool.not_false, Bool.and_true] at h
    exact Option.some.inj h
  split
  · rename_i e
    have hz : z ∉ kvs.map (·.1) := by
      intro q
      obtain ⟨p, hp, rfl⟩ := List.mem_map.mp q
      have := List.lookup_eq_none_iff.mp e p hp
      simp at this
    obtain ⟨i1, i2⟩ := keys_none hk hz
    unfold PySem.W.nsIn
    rw [D.at_]
    dsimp only
    rw [i1, i2]
    rfl
  · rename_i v e
    have hm : (z, v) ∈ kvs := by
      obtain ⟨l1, l2, e, _⟩ := List.lookup_eq_some_iff.mp e
      rw [e]; simp
    obtain ⟨u, h1, h2⟩ := hv _ hm
    obtain ⟨xv, r1, r2⟩ := conV_ok h2
    exact ⟨u, xv, h1, r1, r2⟩
/-! ### the Hook -/
abbrev AlF : Type := He.AlD × List (Option (List (Option (Str × Int))))
def placeB (K : PySem.W.Frag) (fn : Fn) : Bool := match fn.cls with
  | none => (He.Fa.glo fn.name).ok K
  | some c => (He.Fa.meth c fn.name).ok K
def clsB (K : PySem.W.Frag) (p : Str × List Str) : Bool := (He.Fa.glo p.1).ok K && ((He.Fa.cls p.1).ok K && ((He.Fa.mkr p.1).ok K && p.2.all fun f => (He.Fa.noat p.1 f).ok K))
def excOkB (K : PySem.W.Frag) (G : Glo) : Bool := kitsB K G.exs && (((G.exs.all fun c => xcB K (He.ga K c) && ((He.Fa.glo c).ok K && G.exs.all fun x => (He.Fa.exm c x (isSub c x)).ok K)) &&
  G.exc.all fun p => if p.2 = Str.empty then (He.Fa.exc p.1).ok K else iniB K (He.ga K p.1) p.2 && ((He.Fa.glo "FocusError").ok K && (baseB K (He.ga K "FocusError") && G.exs.all fun c => (He.Fa.noat c p.2).ok K))))
def factB (G : Glo) (K : PySem.W.Frag) : Bool := (G.con.all fun p => conB K p) && ((G.free.all fun x => (He.Fa.free x).ok K) && ((G.T.all fun fn => placeB K fn) && ((G.dic.all fun t => dicB K t) && ((G.cls.all fun p => clsB K p) && excOkB K G))))
def obsF (G : Glo) (fn : List He.DefD) (K : PySem.W.Frag) : AlF := ((factB G K && fn.all fun d => d.ok K, fn.map fun d => He.fnW K d.at_), G.dic.map fun t => He.dicW K (He.ga K t.1))
def valF (G : Glo) (fn : List He.DefD) (w : World) : AlF := (He.valD fn, G.dic.map fun t => some (He.keysIn w.params (t.2.map (·.1))))
def SaysF (G : Glo) (fn : List He.DefD) (w : World) (K : PySem.W.Frag) : Prop := obsF G fn K = valF G fn w
def obsFG (n : Nat) (G : Glo) (fn : List He.DefD) (g : Addr → Option Obj) : AlF := obsF G fn (He.frG g (cStatics :: He.asD g n))
def hookF (n : Nat) (G : Glo) (fn : List He.DefD) : PySem.W.Hook where
  α := AlF
  obs := fun s => obsFG n G fn s.heap.get?
  val := fun w => valF G fn w
  says := fun w h => ∃ K : PySem.W.Frag, K.In h ∧ SaysF G fn w K
  of := fun _ _ e => ⟨_, He.frG_in, e⟩
  keeps := fun _ _ _ ⟨K, hK, c⟩ k => ⟨K, PySem.W.Frag.In.keeps hK k, c⟩
theorem obsFG_eq {n : Nat} {G : Glo} {fn : List He.DefD} {g : Addr → Option Obj} {s : Shared} (h : ∀ a, g a = s.heap.get? a) : obsFG n G fn g = (hookF n G fn).obs s := by
  have e : g = s.heap.get? := funext h
  rw [e] <;> rfl
theorem SaysF.mem {G : Glo} {fn : List He.DefD} {w : World} {K : PySem.W.Frag} (c : SaysF G fn w K) {d : He.DefD} (h : d ∈ fn) : ∃ fd, FunD K d.name d.qual d.params d.body d.scope (d.dvs K) (d.kws K) (He.fAd K d.at_) fd := by
  have c2 := (Bool.and_eq_true_iff.mp (show (factB G K && fn.all fun d => d.ok K) = true from congrArg (fun z : AlF => z.1.1) c)).2
  have e : fn.map (fun d => He.fnW K d.at_) = fn.map He.DefD.val := congrArg (fun z : AlF => z.1.2) c
  exact He.DefD.funD (List.map_inj_left.mp e d h) (List.all_eq_true.mp c2 d h)
theorem SaysF.defs {G : Glo} {fn : List He.DefD} {w : World} {K : PySem.W.Frag} (c : SaysF G fn w K) {i : Nat} {d : He.DefD} (h : fn[i]? = some d) : ∃ fd, FunD K d.name d.qual d.params d.body d.scope (d.dvs K) (d.kws K) (He.fAd K d.at_) fd := by
  have c2 := (Bool.and_eq_true_iff.mp (show (factB G K && fn.all fun d => d.ok K) = true from congrArg (fun z : AlF => z.1.1) c)).2
  have e : fn.map (fun d => He.fnW K d.at_) = fn.map He.DefD.val := congrArg (fun z : AlF => z.1.2) c
  have e2 : (fn.map fun d => He.fnW K d.at_)[i]? = (fn.map He.DefD.val)[i]? := by rw [e]
  rw [List.getElem?_map, List.getElem?_map, h] at e2
  exact He.DefD.funD (Option.some.inj e2) (List.all_eq_true.mp c2 d (List.mem_of_getElem? h))
inductive DefsOk (G : Glo) : List Fn → List He.DefD → Prop
  | nil : DefsOk G [] []
  | cons {f : Fn} {d : He.DefD} {fs : List Fn} {ds : List He.DefD} : DefOk G f d → DefsOk G fs ds → DefsOk G (f :: fs) (d :: ds)
theorem DefsOk.at {G : Glo} : ∀ {fs : List Fn} {ds : List He.DefD} {i : Nat} {f : Fn}, DefsOk G fs ds → fs[i]? = some f → ∃ d, ds[i]? = some d ∧ DefOk G f d
  | _, _, _, _, .nil, h => by simp at h
  | _, _, 0, _, .cons o _, h => by simp at h; subst h; exact ⟨_, rfl, o⟩
  | _, _, i + 1, _, .cons _ t, h => by
    obtain ⟨d, h1, h2⟩ := t.at (i := i) (by simpa using h)
    exact ⟨d, by simpa using h1, h2⟩
theorem DefD.plain {K : PySem.W.Frag} {d : He.DefD} (h1 : d.dfl = []) (h2 : d.kwd = []) {a : Addr} {fd : FuncData} (F : FunD K d.name d.qual d.params d.body d.scope (d.dvs K) (d.kws K) a fd) : FunD K d.name d.qual d.params d.body d.scope [] [] a fd := by
  have e1 : d.dvs K = [] := by unfold He.DefD.dvs; rw [h1]; rfl
  have e2 : d.kws K = [] := by unfold He.DefD.kws; rw [h2]; rfl
  rw [e1, e2] at F
  exact F
theorem SaysF.stands {G : Glo} {fn : List He.DefD} {inis : List Ini} {w : World} {K : PySem.W.Frag} {h : Heap} {mg : Str → Option Value} (c : SaysF G (fn ++ inis.map (·.2.2)) w K) (X : K.In h) (N : h.Ns mainGlobals mg) (ok : DefsOk G G.T fn) (iok : InisOk inis) (ib : inisB G inis = true) : Stands G w K mg := by
  have c1 := (Bool.and_eq_true_iff.mp (show (factB G K && (fn ++ inis.map (·.2.2)).all fun d => d.ok K) = true from congrArg (fun z : AlF => z.1.1) c)).1
  unfold factB at c1
  simp only [Bool.and_eq_true, List.all_eq_true] at c1
  obtain ⟨k1, k2, k3, k4, k5, k6⟩ := c1
  refine ⟨fun x v hv => ?_, fun x hx => He.free_ok X N (k2 x (by simpa using hx)), fun x kvs hx => ?_, fun i f hf => ?_, fun cn fs hc => ?_, ?_, ?_, ?_, ?_, ?_, ?_, ?_⟩
  · have hm : (x, v) ∈ G.con := by
      have := List.lookup_eq_some_iff.mp hv
      obtain ⟨l1, l2, e, _⟩ := this
      rw [e]; simp
    have := k1 _ hm
    unfold conB at this
    split at this
    · rename_i u e
      obtain ⟨xv, r1, r2⟩ := conV_ok this
      exact ⟨u, xv, PySem.W.mg_of X N e, r1, r2⟩
    · cases this
  · have hm : (x, kvs) ∈ G.dic := by
      obtain ⟨l1, l2, e, _⟩ := List.lookup_eq_some_iff.mp hx
      rw [e]; simp
    have kb := k4 _ hm
    unfold dicB at kb
    rw [Bool.and_eq_true, List.all_eq_true] at kb
    have g := He.glo_ok X N kb.1
    have e : G.dic.map (fun t => He.dicW K (He.ga K t.1)) = G.dic.map fun t => some (He.keysIn w.params (t.2.map (·.1))) := congrArg (fun z : AlF => z.2) c
    have e2 := List.map_inj_left.mp e (x, kvs) hm
    obtain ⟨es, n, D, at0⟩ := dic_at e2 fun q hq => by
      have := kb.2 q hq
      split at this
      · rename_i u e
        exact ⟨u, e, this⟩
      · cases this
    exact ⟨_, es, n, g, D, at0⟩
  · obtain ⟨d, hd, o⟩ := ok.at hf
    obtain ⟨fd, F⟩ := c.mem (List.mem_append_left _ (List.mem_of_getElem? hd))
    have F := DefD.plain o.dfl o.kwd F
    have pl := k3 f (List.mem_of_getElem? hf)
    unfold placeB at pl
    refine ⟨d, _, fd, o, ?_, F⟩
    rw [o.nm]
    unfold PlaceOk
    cases hc : f.cls with
    | none =>
      rw [hc] at pl
      have kp := F.kp
      rw [o.nm, hc] at kp
      exact ⟨He.glo_ok X N pl, kp⟩
    | some cn =>
      rw [hc] at pl
      exact ⟨rfl, He.meth_ok pl⟩
  · have hm : (cn, fs) ∈ G.cls := by
      obtain ⟨l1, l2, e, _⟩ := List.lookup_eq_some_iff.mp hc
      rw [e]; simp
    have kb := k5 _ hm
    unfold clsB at kb
    simp only [Bool.and_eq_true, List.all_eq_true] at kb
    obtain ⟨q1, q2, q3, q4⟩ := kb
    exact ⟨He.glo_ok X N q1, He.cls_ok q2, fun f hf => He.noat_ok (q4 f hf), He.mkr_ok q3⟩
  all_goals
    have k7 := k6
    unfold excOkB at k7
    simp only [Bool.and_eq_true, List.all_eq_true] at k7
    obtain ⟨q1, q2, q3⟩ := k7
    have at_ : ∀ {a b : Str}, G.exc.lookup a = some b → (a, b) ∈ G.exc := fun {a b} z => by
      obtain ⟨l1, l2, e, _⟩ := List.lookup_eq_some_iff.mp z
      rw [e]; simp
    first
      | exact kitsB_ok q1
      | exact fun cn hc => xcB_ok (q2 cn hc).1
      | exact fun cn hc => He.glo_ok X N (q2 cn hc).2.1
      | exact fun cn hc x hx => He.exm_ok ((q2 cn hc).2.2 x hx)
      | (intro cn hc
         have z := q3 _ (at_ hc)
         rw [if_pos rfl] at z
         exact z)
      | (intro cn f hc hf
         have z := q3 _ (at_ hc)
         rw [if_neg hf] at z
         simp only [Bool.and_eq_true, List.all_eq_true] at z
         obtain ⟨z1, z2, z3, z4⟩ := z
         obtain ⟨d, hd⟩ := inisB_ok ib hc hf
         have io := iok.at hd
         obtain ⟨fd, F⟩ := c.mem (List.mem_append_right _ (List.mem_map_of_mem hd))
         have F := DefD.plain io.dfl io.kwd F
         dsimp only at F
         rw [io.nm] at F
         exact ⟨iniB_ok z1, He.glo_ok X N z2, baseB_ok z3, d, fd, io, F⟩)
      | (intro cn hc f hf hne
         have hf : f ∈ G.exc.map (·.2) := by simpa using hf
         obtain ⟨⟨c2, f2⟩, hm, e⟩ := List.mem_map.mp hf
         dsimp only at e
         subst e
         have z := q3 _ hm
         rw [if_neg hne] at z
         simp only [Bool.and_eq_true, List.all_eq_true] at z
         exact He.noat_ok (z.2.2.2 cn hc))
/-- what the law's def promises of a run, by the small language -/
def spLaw (K : PySem.W.Frag) (ca : Nat → Addr) (T : List Fn) (k i : Nat) : Sp := spF K ca (callF T k) i
theorem law_sp {K : PySem.W.Frag} {ca : Nat → Addr} {C : CallSem} {i : Nat} {a : Addr} {ns : List Int} {H : Hp} (o : Only H) (hS : SqL K H a (ns.map V.int)) (h : C i [.scr (ns.map Val.int)] (fun _ => none) (fun v _ => v = .bl true) XN) :
    spF K ca C i [.ref a] H (fun v _ => v = .bl true) fun _ _ _ => False := by
  refine ⟨fun _ => none, [.scr (ns.map Val.int)], fun v _ => v = .bl true, XN, (fun a o e => nomatch e), .cons (.scr (SqF.of o hS) (rvs_ints ns)) .nil, h, (fun v S' p H' x st rs rv => ?_), fun _ _ p => p.elim⟩
  subst p
  cases rv
  rfl
/-- what some world lets out -/
def CXw (P : Program) : CXT := fun outer H s E u s' => ∃ w, L2N.CX P w outer H s E u s'
theorem fn_cxw {P : Program} {w : World} {K : PySem.W.Frag} {mg : Str → Option Value} {base : Heap} {k : Nat} {f : Addr} {fd : FuncData} {ps : List Str} {sp : Sp} (F : FnOk P w K mg base (L2N.CX P w) k f fd ps sp) : FnOk P w K mg base (CXw P) k f fd ps sp :=
  ⟨F.len, fun A outer s H args us vs Q E hr he hb hv hs => codeAny_mono (F.run A outer s H args us vs Q E hr he hb hv hs) fun r s' h => by
    cases r with
    | error e => exact ⟨w, h⟩
    | ok fl => cases fl <;> exact h⟩
theorem cxw_never {P : Program} {outer : List PySem.Env} {H : Hp} {s s' : Shared} {e : Value} (h : CXw P outer H s (fun _ _ _ => False) e s') : False := by
  obtain ⟨w, _, _, _, _, _, _, _, _, _, _, _, _, z⟩ := h
  exact z
end FW

set_option Elab.async false
set_option linter.all false
set_option maxRecDepth 100000
/-! Rules to show what the small language means. -/
namespace FW
open PySem PySem.Spec PyProof.Rows L2
def Ext (S S' : Sto) : Prop := ∀ a o, S a = some o → S' a = some o
theorem Ext.refl {S : Sto} : Ext S S := fun _ _ h => h
theorem Ext.trans {S S1 S2 : Sto} (a : Ext S S1) (b : Ext S1 S2) : Ext S S2 := fun x o h => b x o (a x o h)
theorem Ext.new {S : Sto} {p : Addr} {o : Ob} (h : S p = none) : Ext S (S.put p o) := fun a u e => by
  rw [put_ne (fun z => by rw [z, h] at e; cases e)]; exact e
theorem Ext.none {S S' : Sto} (e : Ext S S') {p : Addr} (h : S' p = none) : S p = none := by
  cases q : S p with
  | none => rfl
  | some o => rw [e p o q] at h; cases h
/-- all but p is kept -/
def ExtB (p : Addr) (S S' : Sto) : Prop := ∀ a o, a ≠ p → S a = some o → S' a = some o
theorem ExtB.refl {S : Sto} {p : Addr} : ExtB p S S := fun _ _ _ h => h
theorem ExtB.trans {S S1 S2 : Sto} {p : Addr} (a : ExtB p S S1) (b : ExtB p S1 S2) : ExtB p S S2 := fun x o n h => b x o n (a x o n h)
theorem ExtB.of {S S1 : Sto} {p : Addr} (a : Ext S S1) : ExtB p S S1 := fun x o _ h => a x o h
theorem ExtB.put {S : Sto} {p : Addr} {o : Ob} : ExtB p S (S.put p o) := fun a u n e => by rw [put_ne n]; exact e
theorem ExtB.ext {S S1 : Sto} {p : Addr} (a : ExtB p S S1) (h : S p = none) : Ext S S1 := fun x o e => a x o (fun z => by rw [z, h] at e; cases e) e
theorem call_is {T : List Fn} {n f : Nat} {fn : Fn} {vs : List Val} {S : Sto} {P : VP} {X : XP} (h : T[f]? = some fn) (hl : vs.length = fn.np)
    (e : exs (callF T n) fn.body (vs.map some ++ List.replicate (fn.N.length - vs.length) none) S ⟨fun _ S1 => P .non S1, P, fun _ => X⟩) : callF T (n + 1) f vs S P X := ⟨fn, h, hl, e⟩
theorem forL_inv {ok : Sto → Prop} {tg : Tg} {b : Env → Sto → (Env → Sto → Prop) → Prop} {nx : Env → Sto → Prop} : ∀ (xs : List Val) (I : Nat → Env → Sto → Prop) {ρ : Env} {S : Sto}, I 0 ρ S →
    (∀ i ρ S, I i ρ S → ok S) → (∀ i x ρ S (K : Env → Sto → Prop), xs[i]? = some x → I i ρ S → (∀ ρ' S', I (i + 1) ρ' S' → K ρ' S') → asgT tg x ρ fun ρ' => b ρ' S K) → (∀ ρ S, I xs.length ρ S → nx ρ S) → forL ok tg b nx xs ρ S
  | [], I, ρ, S, h0, hok, _, fin => ⟨hok _ _ _ h0, fin _ _ h0⟩
  | x :: xs, I, ρ, S, h0, hok, step, fin => by
    refine ⟨hok _ _ _ h0, step 0 x ρ S _ rfl h0 fun ρ' S' q => ?_⟩
    exact forL_inv xs (fun i => I (i + 1)) q (fun i => hok (i + 1)) (fun i y ρ S K hy => step (i + 1) y ρ S K (by simpa using hy)) fin
/-- a walk that may leave the def: what has been walked holds I, what comes is told by the rest -/
theorem forL_from {ok : Sto → Prop} {tg : Tg} {b : Env → Sto → (Env → Sto → Prop) → Prop} {nx : Env → Sto → Prop} (I : List Val → Env → Sto → Prop) (hok : ∀ r ρ S, I r ρ S → ok S)
    (step : ∀ x r ρ S (K : Env → Sto → Prop), I (x :: r) ρ S → (∀ ρ' S', I r ρ' S' → K ρ' S') → asgT tg x ρ fun ρ' => b ρ' S K) (fin : ∀ ρ S, I [] ρ S → nx ρ S) : ∀ (xs : List Val) {ρ : Env} {S : Sto}, I xs ρ S → forL ok tg b nx xs ρ S
  | [], ρ, S, h => ⟨hok _ _ _ h, fin _ _ h⟩
  | x :: xs, ρ, S, h => ⟨hok _ _ _ h, step x xs ρ S _ h fun ρ' S' q => forL_from I hok step fin xs q⟩
theorem lcLoop_from {ok : Sto → Prop} {turn : Val → Sto → (Option Val → Sto → Prop) → Prop} {P : List Val → Sto → Prop} (I : List Val → List Val → Sto → Prop) (hok : ∀ r acc S, I r acc S → ok S)
    (step : ∀ x r acc S (K : Option Val → Sto → Prop), I (x :: r) acc S → (∀ v S', I r (acc ++ [v]) S' → K (some v) S') → (∀ S', I r acc S' → K none S') → turn x S K) (fin : ∀ acc S, I [] acc S → P acc S) :
    ∀ (xs acc : List Val) {S : Sto}, acc.length + xs.length ≤ 16777216 → I xs acc S → lcLoop ok turn xs acc S P
  | [], acc, S, _, h => ⟨hok _ _ _ h, fin _ _ h⟩
  | x :: xs, acc, S, hl, h => by
    rw [List.length_cons] at hl
    refine ⟨hok _ _ _ h, step x xs acc S _ h (fun v S' q => ?_) fun S' q => ?_⟩
    · exact ⟨by omega, lcLoop_from I hok step fin xs (acc ++ [v]) (by rw [List.length_append, List.length_singleton]; omega) q⟩
    · exact lcLoop_from I hok step fin xs acc (by omega) q
theorem lcLoop_pure {ok : Sto → Prop} {turn : Val → Sto → (Option Val → Sto → Prop) → Prop} {P : List Val → Sto → Prop} (f : Val → Option Val) {S : Sto} (hok : ok S) : ∀ (xs acc : List Val), acc.length + xs.length ≤ 16777216 →
    (∀ x, x ∈ xs → ∀ K : Option Val → Sto → Prop, K (f x) S → turn x S K) → P (acc ++ xs.filterMap f) S → lcLoop ok turn xs acc S P
  | [], acc, _, _, h => ⟨hok, by simpa using h⟩
  | x :: xs, acc, hl, ht, h => by
    rw [List.length_cons] at hl
    refine ⟨hok, ht x List.mem_cons_self _ ?_⟩
    have ht' : ∀ y, y ∈ xs → ∀ K : Option Val → Sto → Prop, K (f y) S → turn y S K := fun y hy => ht y (List.mem_cons_of_mem _ hy)
    cases e : f x with
    | none => exact lcLoop_pure f hok xs acc (by omega) ht' (by rw [List.filterMap_cons_none e] at h; exact h)
    | some v =>
      refine ⟨by omega, lcLoop_pure f hok xs (acc ++ [v]) (by rw [List.length_append, List.length_singleton]; omega) ht' ?_⟩
      rw [List.filterMap_cons_some e] at h
      rw [List.append_assoc]; exact h

/-! ### equations -/
section
variable {C : CallSem} {ρ : Env} {S : Sto} {P : VP} {X : XP} {a b e o : E} {es : Es} {D : EndsE} {v w : Val} {i j : Int} {vs ws : List Val}
@[simp] theorem ev_var {i : Nat} : ev C (.var i) ρ S P X = ∃ v, ρ[i]? = some (some v) ∧ P v S := by simp only [ev]
@[simp] theorem ev_con : ev C (.con v) ρ S P X = P v S := by simp only [ev]
@[simp] theorem ev_glo {x : Str} : ev C (.glo x v) ρ S P X = P v S := by simp only [ev]
@[simp] theorem ev_bin {op : Op} : ev C (.bin op a b) ρ S P X = ev C a ρ S (fun v S1 => ev C b ρ S1 (fun w S2 => semOp op v w S2 P) X) X := by simp only [ev]
@[simp] theorem ev_neg : ev C (.neg a) ρ S P X = ev C a ρ S (fun v S1 => ∃ i, v = .int i ∧ P (.int (-i)) S1) X := by simp only [ev]
@[simp] theorem ev_cmp {op : Cp} : ev C (.cmp op a b) ρ S P X = ev C a ρ S (fun v S1 => ev C b ρ S1 (fun w S2 => semCmp op v w S2 fun c => P (.bl c) S2) X) X := by simp only [ev]
@[simp] theorem ev_band : ev C (.band es) ρ S P X = evAnd C es ρ S P X := by simp only [ev]
@[simp] theorem ev_bor : ev C (.bor es) ρ S P X = evOr C es ρ S P X := by simp only [ev]
@[simp] theorem ev_not : ev C (.not a) ρ S P X = ev C a ρ S (fun v S1 => ∃ b, v = .bl b ∧ P (.bl (!b)) S1) X := by simp only [ev]
@[simp] theorem ev_tup : ev C (.tup es) ρ S P X = evs C es ρ S (fun vs S1 => vs.length ≤ 16777216 ∧ P (.tup vs) S1) X := by simp only [ev]
@[simp] theorem ev_lst : ev C (.lst es) ρ S P X = evs C es ρ S (fun vs S1 => vs.length ≤ 16777216 ∧ allo S1 (.lst vs) P) X := by simp only [ev]
@[simp] theorem ev_dic0 : ev C (.dic .nil) ρ S P X = allo S (.dic []) P := by
  simp only [ev, evs]
  refine propext ⟨fun ⟨_, ps, h, _, q⟩ => by cases h; exact q, fun q => ⟨Nat.zero_le _, [], rfl, rfl, q⟩⟩
@[simp] theorem ev_ix : ev C (.ix a b) ρ S P X = ev C a ρ S (fun v S1 => ev C b ρ S1 (fun w S2 => semIx v w S2 P) X) X := by simp only [ev]
@[simp] theorem ev_sl {lo hi : Eo} : ev C (.sl a lo hi) ρ S P X = ev C a ρ S (fun v S1 => evo C lo ρ S1 (fun l S2 => evo C hi ρ S2 (fun h S3 => semSl v l h S3 P) X) X) X := by simp only [ev]
@[simp] theorem ev_rev : ev C (.rev a) ρ S P X = ev C a ρ S (fun v S1 => semRev v S1 P) X := by simp only [ev]
@[simp] theorem ev_call {f : Nat} : ev C (.call f es) ρ S P X = evs C es ρ S (fun vs S1 => C f vs S1 P X) X := by simp only [ev]
@[simp] theorem ev_blt {b : Bi} : ev C (.blt b es) ρ S P X = evs C es ρ S (fun vs S1 => semBi b vs S1 P) X := by simp only [ev]
@[simp] theorem ev_mth {m : Mt} : ev C (.mth m o es) ρ S P X = ev C o ρ S (fun v S1 => ∃ T, mtTy m v S1 = some T ∧ evs C es ρ S1 (fun vs S2 => semMt m T v vs S2 P) X) X := by simp only [ev]
@[simp] theorem ev_isi {t : Ty} : ev C (.isi a t) ρ S P X = ev C a ρ S (fun v S1 => semIsi v t S1 fun b => P (.bl b) S1) X := by simp only [ev]
@[simp] theorem ev_kin {neg : Bool} {x : Str} {kvs : List (Str × Val)} : ev C (.kin neg a x kvs) ρ S P X = ev C a ρ S (fun v S1 => ∃ z, v = .str z ∧ P (.bl (if neg then !(kvs.lookup z).isSome else (kvs.lookup z).isSome)) S1) X := by simp only [ev]
@[simp] theorem ev_kix {x : Str} {kvs : List (Str × Val)} : ev C (.kix x kvs a) ρ S P X = ev C a ρ S (fun v S1 => ∃ z w, v = .str z ∧ kvs.lookup z = some w ∧ P w S1) X := by simp only [ev]
@[simp] theorem ev_lvals : ev C (.lvals a) ρ S P X = ev C a ρ S (fun v S1 => ∃ p kvs, v = .ref p ∧ S1 p = some (.dic kvs) ∧ allK kvs = true ∧ allo S1 (.lst (kvs.map (·.2))) P) X := by simp only [ev]
@[simp] theorem ev_lrng : ev C (.lrng a) ρ S P X = ev C a ρ S (fun v S1 => ∃ n, v = .int n ∧ -1000000 ≤ n ∧ n ≤ 1000000 ∧ allo S1 (.lst (rngL 0 n.toNat)) P) X := by simp only [ev]
@[simp] theorem ev_isx {one : Bool} {cs xs : List Str} : ev C (.isx a one cs xs) ρ S P X = ev C a ρ S (fun v S1 => semIsx cs xs v S1 fun b => P (.bl b) S1) X := by simp only [ev]
@[simp] theorem ev_xfld {cs : List Str} {f : Str} : ev C (.xfld a cs f) ρ S P X = ev C a ρ S (fun v S1 => ∃ c w, v = .exn c f w ∧ c ∈ cs ∧ f ≠ Str.empty ∧ P w S1) X := by simp only [ev]
@[simp] theorem ev_fld {c f : Str} : ev C (.fld c a f) ρ S P X = ev C a ρ S (fun v S1 => ∃ p fs w, v = .ref p ∧ S1 p = some (.ins c fs) ∧ fs.lookup f = some w ∧ P w S1) X := by simp only [ev]
@[simp] theorem ev_new {c : Str} {f : Nat} : ev C (.new c f es) ρ S P X = evs C es ρ S (fun vs S1 => ∀ p, S1 p = none → C f (.ref p :: vs) (S1.put p (.ins c [])) (fun v S2 => v = .non ∧ P (.ref p) S2) X) X := by simp only [ev]
@[simp] theorem ev_met {c m : Str} {f : Nat} : ev C (.met c m f o es) ρ S P X = ev C o ρ S (fun v S1 => ∃ p fs, v = .ref p ∧ S1 p = some (.ins c fs) ∧ fs.lookup m = none ∧ evs C es ρ S1 (fun vs S2 => C f (v :: vs) S2 P X) X) X := by simp only [ev]
theorem ev_lc {own tg : List Nat} {one : Bool} {it : It} {c : Eo} : ev C (.lc own tg one it c e) ρ S P X = evIt C it ρ S (fun w S1 => lcLoop w.ok (lcTurn (lcTg one tg) own (evc C c) (ev C e) ρ) w.xs [] S1 fun acc S2 => allo S2 (.lst acc) P) X := by
  simp only [ev]; rfl
@[simp] theorem evs_nil {P : List Val → Sto → Prop} : evs C .nil ρ S P X = P [] S := by simp only [evs]
@[simp] theorem evs_cons {P : List Val → Sto → Prop} : evs C (.cons e es) ρ S P X = ev C e ρ S (fun v S1 => evs C es ρ S1 (fun vs S2 => P (v :: vs) S2) X) X := by simp only [evs]
@[simp] theorem evAnd_one : evAnd C (.cons e .nil) ρ S P X = ev C e ρ S (fun v S1 => ∃ b, v = .bl b ∧ P (.bl b) S1) X := rfl
@[simp] theorem evAnd_two {e2 : E} : evAnd C (.cons e (.cons e2 es)) ρ S P X = ev C e ρ S (fun v S1 => ∃ b, v = .bl b ∧ if b then evAnd C (.cons e2 es) ρ S1 P X else P (.bl false) S1) X := rfl
@[simp] theorem evOr_one : evOr C (.cons e .nil) ρ S P X = ev C e ρ S (fun v S1 => ∃ b, v = .bl b ∧ P (.bl b) S1) X := rfl
@[simp] theorem evOr_two {e2 : E} : evOr C (.cons e (.cons e2 es)) ρ S P X = ev C e ρ S (fun v S1 => ∃ b, v = .bl b ∧ if b then P (.bl true) S1 else evOr C (.cons e2 es) ρ S1 P X) X := rfl
@[simp] theorem evo_no {P : Option Int → Sto → Prop} : evo C .no ρ S P X = P none S := by simp only [evo]
@[simp] theorem evo_yes {P : Option Int → Sto → Prop} : evo C (.yes e) ρ S P X = ev C e ρ S (fun v S1 => ∃ i, v = .int i ∧ P (some i) S1) X := by simp only [evo]
@[simp] theorem evc_no {P : Bool → Sto → Prop} : evc C .no ρ S P X = P true S := by simp only [evc]
@[simp] theorem evc_yes {P : Bool → Sto → Prop} : evc C (.yes e) ρ S P X = ev C e ρ S (fun v S1 => ∃ b, v = .bl b ∧ P b S1) X := by simp only [evc]
section
variable {P : Wk → Sto → Prop}
@[simp] theorem evIt_keys : evIt C (.keys a) ρ S P X = ev C a ρ S (fun v S1 => ∃ d kvs o t, v = .ref d ∧ S1 d = some (.dlk kvs o t) ∧ P ⟨kvs.map (·.1), none, none, some (d, .dlk kvs o t)⟩ S1) X := by simp only [evIt]
@[simp] theorem evIt_rng1 : evIt C (.rng1 a) ρ S P X = ev C a ρ S (fun v S1 => ∃ n, v = .int n ∧ small62 n ∧ P ⟨rngL 0 n.toNat, none, none, none⟩ S1) X := by simp only [evIt]
@[simp] theorem evIt_rng2 : evIt C (.rng2 a b) ρ S P X = ev C a ρ S (fun v S1 => ev C b ρ S1 (fun w S2 => ∃ m n, v = .int m ∧ w = .int n ∧ small62 m ∧ small62 n ∧ P ⟨rngL m (n - m).toNat, none, none, none⟩ S2) X) X := by simp only [evIt]
@[simp] theorem evIt_rev : evIt C (.rev a) ρ S P X = ev C a ρ S (fun v S1 => ∃ w, wkOf S1 v List.reverse = some w ∧ P w S1) X := by simp only [evIt]
@[simp] theorem evIt_revr : evIt C (.revr a) ρ S P X = ev C a ρ S (fun v S1 => ∃ n, v = .int n ∧ small62 n ∧ P ⟨(rngL 0 n.toNat).reverse, none, none, none⟩ S1) X := by simp only [evIt]
@[simp] theorem evIt_enum : evIt C (.enum a) ρ S P X = ev C a ρ S (fun v S1 => ∃ w, wkOf S1 v (fun vs => enumL vs 0) = some w ∧ P w S1) X := by simp only [evIt]
def semZip2 (v u : Val) (S2 : Sto) (P : Wk → Sto → Prop) : Prop := ∃ xs ys, its S2 v = some xs ∧ its S2 u = some ys ∧ isT v = isT u ∧ P ⟨zipL xs ys, trk S2 v, trk S2 u, none⟩ S2
@[simp] theorem evIt_zip2 : evIt C (.zip2 a b) ρ S P X = ev C a ρ S (fun v S1 => ev C b ρ S1 (fun u S2 => semZip2 v u S2 P) X) X := by simp only [evIt]; rfl
theorem semZip2_ref {p q : Addr} (h : S p = some (.lst vs)) (g : S q = some (.lst ws)) (k : P ⟨zipL vs ws, some (p, vs), some (q, ws), none⟩ S) : semZip2 (.ref p) (.ref q) S P :=
  ⟨vs, ws, by simp [FW.its, h], by simp [FW.its, g], rfl, by simp only [trk, h, g]; exact k⟩
theorem semZip2_scr {q : Addr} (g : S q = some (.lst ws)) (k : P ⟨zipL vs ws, none, some (q, ws), none⟩ S) : semZip2 (.scr vs) (.ref q) S P :=
  ⟨vs, ws, rfl, by simp [FW.its, g], rfl, by simp only [trk, g]; exact k⟩
@[simp] theorem semZip2_tup : semZip2 (.tup vs) (.tup ws) S P = P ⟨zipL vs ws, none, none, none⟩ S := by
  refine propext ⟨fun ⟨xs, ys, h1, h2, _, p⟩ => by cases h1; cases h2; exact p, fun p => ⟨_, _, rfl, rfl, rfl, p⟩⟩
@[simp] theorem semZip2_kt : semZip2 (.kt vs) (.tup ws) S P = P ⟨zipL vs ws, none, none, none⟩ S := by
  refine propext ⟨fun ⟨xs, ys, h1, h2, _, p⟩ => by cases h1; cases h2; exact p, fun p => ⟨_, _, rfl, rfl, rfl, p⟩⟩
def semZip3 (v u t : Val) (S3 : Sto) (P : Wk → Sto → Prop) : Prop := ∃ xs ys zs, its S3 v = some xs ∧ its S3 u = some ys ∧ its S3 t = some zs ∧ isT v = true ∧ isT u = true ∧ isT t = true ∧ P ⟨zip3L xs ys zs, none, none, none⟩ S3
@[simp] theorem evIt_zip3 {c : E} : evIt C (.zip3 a b c) ρ S P X = ev C a ρ S (fun v S1 => ev C b ρ S1 (fun u S2 => ev C c ρ S2 (fun t S3 => semZip3 v u t S3 P) X) X) X := by simp only [evIt]; rfl
@[simp] theorem semZip3_ktt {us : List Val} : semZip3 (.kt vs) (.tup ws) (.tup us) S P = P ⟨zip3L vs ws us, none, none, none⟩ S := by
  refine propext ⟨fun ⟨xs, ys, zs, h1, h2, h3, _, _, _, p⟩ => by cases h1; cases h2; cases h3; exact p, fun p => ⟨_, _, _, rfl, rfl, rfl, rfl, rfl, rfl, p⟩⟩
def semSeq (v : Val) (S1 : Sto) (P : Wk → Sto → Prop) : Prop := match v with
  | .str z => P ⟨signs z, none, none, none⟩ S1
  | v => ∃ w, wkOf S1 v id = some w ∧ P w S1
@[simp] theorem evIt_seq : evIt C (.seq e) ρ S P X = ev C e ρ S (fun v S1 => semSeq v S1 P) X := by simp only [evIt]; rfl
@[simp] theorem semSeq_tup : semSeq (.tup vs) S P = P ⟨vs, none, none, none⟩ S := by
  refine propext ⟨fun ⟨w, h, p⟩ => by cases h; exact p, fun p => ⟨_, rfl, p⟩⟩
@[simp] theorem semSeq_kt : semSeq (.kt vs) S P = P ⟨vs, none, none, none⟩ S := by
  refine propext ⟨fun ⟨w, h, p⟩ => by cases h; exact p, fun p => ⟨_, rfl, p⟩⟩
@[simp] theorem semSeq_scr : semSeq (.scr vs) S P = P ⟨vs, none, none, none⟩ S := by
  refine propext ⟨fun ⟨w, h, p⟩ => by cases h; exact p, fun p => ⟨_, rfl, p⟩⟩
@[simp] theorem semSeq_str {z : Str} : semSeq (.str z) S P = P ⟨signs z, none, none, none⟩ S := rfl
theorem semSeq_ref {p : Addr} (h : S p = some (.lst vs)) (q : P ⟨vs, some (p, vs), none, none⟩ S) : semSeq (.ref p) S P := ⟨_, by simp [wkOf, h], q⟩
end
@[simp] theorem ex_set {i : Nat} : ex1 C (.set i e) ρ S D = ev C e ρ S (fun v S1 => D.nx (ρ.set i (some v)) S1) (D.xp ρ) := by simp only [ex1]
@[simp] theorem ex_unp {is : List Nat} : ex1 C (.unp is e) ρ S D = ev C e ρ S (fun v S1 => ∃ vs, v = .tup vs ∧ vs.length = is.length ∧ D.nx (stores is vs ρ) S1) (D.xp ρ) := by simp only [ex1]
@[simp] theorem ex_sub {i : E} : ex1 C (.sub o i e) ρ S D = ev C e ρ S (fun v S1 => ev C o ρ S1 (fun o S2 => ev C i ρ S2 (fun i S3 => semSet o i v S3 fun S4 => D.nx ρ S4) (D.xp ρ)) (D.xp ρ)) (D.xp ρ) := by simp only [ex1]
@[simp] theorem ex_drop : ex1 C (.drop e) ρ S D = ev C e ρ S (fun _ S1 => D.nx ρ S1) (D.xp ρ) := by simp only [ex1]
@[simp] theorem ex_ite {s t : Sts} : ex1 C (.ite e s t) ρ S D = ev C e ρ S (fun v S1 => ∃ b, v = .bl b ∧ if b then exs C s ρ S1 D else exs C t ρ S1 D) (D.xp ρ) := by simp only [ex1]
theorem ex_wh {s : Sts} : ex1 C (.wh e s) ρ S D = ∃ n, whileL (fun ρ S K => ev C e ρ S (fun v S1 => ∃ t, v = .bl t ∧ K t S1) (D.xp ρ)) (fun ρ S K => exs C s ρ S ⟨K, D.rt, D.xp⟩) D.nx n ρ S := by simp only [ex1]
@[simp] theorem ex_for {tg : Tg} {it : It} {s : Sts} : ex1 C (.for_ tg it s) ρ S D = evIt C it ρ S (fun w S1 => forL w.ok tg (fun ρ S K => exs C s ρ S ⟨K, D.rt, D.xp⟩) D.nx w.xs ρ S1) (D.xp ρ) := by simp only [ex1]
@[simp] theorem ex_ret : ex1 C (.ret e) ρ S D = ev C e ρ S D.rt (D.xp ρ) := by simp only [ex1]
@[simp] theorem ex_retN : ex1 C .retN ρ S D = D.rt .non S := by simp only [ex1]
theorem ex_lks {i : Nat} {s : St1} : ex1 C (.lks i s) ρ S D = ∃ d kvs, ρ[i]? = some (some (.ref d)) ∧ S d = some (.dic kvs) ∧ allK kvs = true ∧ ∀ o t, ex1 C s ρ (S.put d (.dlk kvs o t)) ⟨fun ρ1 S1 => S1 d = some (.dlk kvs o t) ∧ D.nx ρ1 (S1.put d (.dic kvs)), fun v S1 => S1 d = some (.dlk kvs o t) ∧ D.rt v (S1.put d (.dic kvs)), fun _ _ _ => False⟩ := by simp only [ex1]
@[simp] theorem ex_raise0 {c f : Str} : ex1 C (.raise c f .no) ρ S D = D.xp ρ ⟨c, Str.empty, .non⟩ S := by simp only [ex1]
@[simp] theorem ex_raise1 {c f : Str} : ex1 C (.raise c f (.yes e)) ρ S D = ev C e ρ S (fun v S1 => D.xp ρ ⟨c, f, v⟩ S1) (D.xp ρ) := by simp only [ex1]
@[simp] theorem ex_att {c f : Str} : ex1 C (.att c a f e) ρ S D = ev C e ρ S (fun v S1 => ev C a ρ S1 (fun o S2 => ∃ p fs, o = .ref p ∧ S2 p = some (.ins c fs) ∧ fs.length < 1000 ∧ D.nx ρ (S2.put p (.ins c (fput f v fs)))) (D.xp ρ)) (D.xp ρ) := by simp only [ex1]
@[simp] theorem ex_try {b h : Sts} {x : Str} {cs : List Str} {i : Option Nat} : ex1 C (.try_ b x cs i h) ρ S D = exs C b ρ S ⟨D.nx, D.rt, fun ρ1 e S1 => e.c ∈ cs ∧ if isSub e.c x then exs C h (inE i e ρ1) S1 ⟨fun ρ2 S2 => D.nx (outE i ρ2) S2, D.rt, fun _ _ _ => False⟩ else D.xp ρ1 e S1⟩ := by simp only [ex1]
@[simp] theorem exs_nil : exs C .nil ρ S D = D.nx ρ S := by simp only [exs]
@[simp] theorem exs_cons {s : St1} {r : Sts} : exs C (.cons s r) ρ S D = ex1 C s ρ S ⟨fun ρ1 S1 => exs C r ρ1 S1 D, D.rt, D.xp⟩ := by simp only [exs]
/-! values -/
@[simp] theorem its_tup : its S (.tup vs) = some vs := rfl
@[simp] theorem its_kt : its S (.kt vs) = some vs := rfl
@[simp] theorem its_scr : its S (.scr vs) = some vs := rfl
@[simp] theorem its_ref {p : Addr} : its S (.ref p) = match S p with | some (.lst vs) => some vs | _ => none := rfl
@[simp] theorem its_int : its S (.int i) = none := rfl
@[simp] theorem its_str {x : Str} : its S (.str x) = none := rfl
@[simp] theorem lts_tup : lts S (.tup vs) = none := rfl
@[simp] theorem lts_scr : lts S (.scr vs) = some vs := rfl
@[simp] theorem lts_ref {p : Addr} : lts S (.ref p) = match S p with | some (.lst vs) => some vs | _ => none := rfl
@[simp] theorem lts_str {x : Str} : lts S (.str x) = none := rfl
@[simp] theorem dct_tup : dct S (.tup vs) = none := rfl
@[simp] theorem dct_kt : dct S (.kt vs) = none := rfl
@[simp] theorem dct_scr : dct S (.scr vs) = none := rfl
@[simp] theorem dct_ref {p : Addr} : dct S (.ref p) = match S p with | some (.dic kvs) => some kvs | _ => none := rfl
@[simp] theorem look_tup : look S (.tup vs) v = none := rfl
@[simp] theorem look_kt : look S (.kt vs) v = none := rfl
@[simp] theorem look_scr : look S (.scr vs) v = none := rfl
theorem look_dic {p : Addr} {kvs : List (Val × Val)} (h : S p = some (.dic kvs)) (s : suits kvs v = true) : look S (.ref p) v = some (dget kvs v) := by unfold look; simp [h, s]
@[simp] theorem look_lst {p : Addr} (h : S p = some (.lst vs)) : look S (.ref p) v = none := by unfold look; simp [h]
@[simp] theorem op_add : semOp .add (.int i) (.int j) S P = P (.int (i + j)) S := rfl
@[simp] theorem op_addS {x y : Str} : semOp .add (.str x) (.str y) S P = (x.length + y.length ≤ 16777216 ∧ P (.str (x ++ y)) S) := rfl
@[simp] theorem op_addT : semOp .add (.tup vs) (.tup ws) S P = (vs.length + ws.length ≤ 16777216 ∧ P (.tup (vs ++ ws)) S) := rfl
@[simp] theorem op_addL {p q : Addr} : semOp .add (.ref p) (.ref q) S P = ∃ xs ys, S p = some (.lst xs) ∧ S q = some (.lst ys) ∧ xs.length + ys.length ≤ 16777216 ∧ allo S (.lst (xs ++ ys)) P := rfl
@[simp] theorem op_sub : semOp .sub (.int i) (.int j) S P = P (.int (i - j)) S := rfl
@[simp] theorem op_mul : semOp .mul (.int i) (.int j) S P = ((CMul i j ∨ CMulW i j) ∧ P (.int (i * j)) S) := rfl
@[simp] theorem op_mulS {x : Str} : semOp .mul (.str x) (.int j) S P = (j ≤ 1000 ∧ -1000 ≤ j ∧ x.length ≤ 1000 ∧ P (.str (strRep x j)) S) := rfl
@[simp] theorem op_fdiv : semOp .fdiv (.int i) (.int j) S P = (CDivW i j ∧ P (.int (i / j)) S) := rfl
@[simp] theorem op_mod : semOp .mod (.int i) (.int j) S P = (0 < j ∧ P (.int (i % j)) S) := rfl
@[simp] theorem op_pow : semOp .pow (.int i) (.int j) S P = (CPow i j ∧ P (.int (i ^ j.toNat)) S) := rfl
section
variable {P : Bool → Prop}
@[simp] theorem cp_lt : semCmp .lt (.int i) (.int j) S P = P (decide (i < j)) := rfl
@[simp] theorem cp_le : semCmp .le (.int i) (.int j) S P = P (decide (i ≤ j)) := rfl
@[simp] theorem cp_gt : semCmp .gt (.int i) (.int j) S P = P (decide (j < i)) := rfl
@[simp] theorem cp_ge : semCmp .ge (.int i) (.int j) S P = P (decide (j ≤ i)) := rfl
@[simp] theorem cp_eq : semCmp .eq v w S P = semEq v w S P := rfl
@[simp] theorem cp_ne : semCmp .ne v w S P = semEq v w S fun b => P (!b) := rfl
@[simp] theorem cp_in : semCmp .mem v w S P = semIn v w S P := rfl
@[simp] theorem cp_nin : semCmp .nmem v w S P = semIn v w S fun b => P (!b) := rfl
@[simp] theorem cp_is : semCmp .isN v w S P = (w = .non ∧ P (decide (v = .non))) := rfl
@[simp] theorem cp_isnot : semCmp .notN v w S P = (w = .non ∧ P (!decide (v = .non))) := rfl
@[simp] theorem eq_int : semEq (.int i) (.int j) S P = P (decide (i = j)) := rfl
@[simp] theorem eq_str {x y : Str} : semEq (.str x) (.str y) S P = P (decide (x = y)) := rfl
@[simp] theorem eq_bl {x y : Bool} : semEq (.bl x) (.bl y) S P = P (decide (x = y)) := rfl
@[simp] theorem eq_non : semEq .non .non S P = P true := rfl
@[simp] theorem eq_non_str {x : Str} : semEq .non (.str x) S P = P false := rfl
@[simp] theorem eq_str_non {x : Str} : semEq (.str x) .non S P = P false := rfl
/-- two values without lists -/
theorem eq_data (hp : Val.purs vs = true) (hq : w.pur = true) (h1 : SeqAt.shaped (Val.pd (.tup vs)) = true) (h2 : SeqAt.shaped w.pd = true) (q : P (PyData.eqv (Val.pd (.tup vs)) w.pd)) : semEq (.tup vs) w S P := by
  have e : ∃ d e, Dv S (.tup vs) d ∧ Dv S w e ∧ SeqAt.shaped d = true ∧ SeqAt.shaped e = true ∧ P (PyData.eqv d e) := ⟨_, _, .of_pur (v := .tup vs) hp, .of_pur hq, h1, h2, q⟩
  cases w <;> exact e
/-- a flat value among flat ones -/
theorem in_flat {x : Val} (hn : ∀ z, w ≠ .str z) (h : its S w = some vs) (h1 : flatW x = true) (h2 : vs.all flatW = true) (q : P (memW x vs)) : semIn x w S P := by
  unfold semIn
  split
  · rename_i z; exact absurd rfl (hn z)
  · exact .inl ⟨vs, h, h1, h2, q⟩
theorem in_dict {x : Val} {p : Addr} {kvs : List (Val × Val)} (h : S p = some (.dic kvs)) (s : suits kvs x = true) (q : P (dget kvs x).isSome) : semIn x (.ref p) S P := .inr (.inr ⟨_, look_dic h s, q⟩)
end
theorem ix_tup (o : Val) (h : its S o = some vs) (hn : ∀ z, o ≠ .str z) {x : Val} (e : atI vs i = some x) (q : P x S) : semIx o (.int i) S P := by
  unfold semIx
  split
  · exact absurd rfl (hn _)
  · exact .inl ⟨vs, i, x, h, rfl, e, q⟩
theorem ix_dic {p : Addr} {kvs : List (Val × Val)} {x : Val} (h : S p = some (.dic kvs)) (s : suits kvs v = true) (e : dget kvs v = some x) (q : P x S) : semIx (.ref p) v S P := .inr ⟨x, by rw [look_dic h s, e], q⟩
@[simp] theorem ix_tupE : semIx (.tup vs) (.int i) S P = ∃ x, atI vs i = some x ∧ P x S := by
  refine propext ⟨fun h => ?_, fun ⟨x, h1, h2⟩ => ix_tup _ rfl (fun z q => nomatch q) h1 h2⟩
  rcases h with ⟨ws, j, x, h1, h2, h3, h4⟩ | ⟨x, h, _⟩
  · cases h1; cases h2; exact ⟨x, h3, h4⟩
  · cases h
@[simp] theorem ix_ktE : semIx (.kt vs) (.int i) S P = ∃ x, atI vs i = some x ∧ P x S := by
  refine propext ⟨fun h => ?_, fun ⟨x, h1, h2⟩ => ix_tup _ rfl (fun z q => nomatch q) h1 h2⟩
  rcases h with ⟨ws, j, x, h1, h2, h3, h4⟩ | ⟨x, h, _⟩
  · cases h1; cases h2; exact ⟨x, h3, h4⟩
  · cases h
@[simp] theorem ix_scrE : semIx (.scr vs) (.int i) S P = ∃ x, atI vs i = some x ∧ P x S := by
  refine propext ⟨fun h => ?_, fun ⟨x, h1, h2⟩ => ix_tup _ rfl (fun z q => nomatch q) h1 h2⟩
  rcases h with ⟨ws, j, x, h1, h2, h3, h4⟩ | ⟨x, h, _⟩
  · cases h1; cases h2; exact ⟨x, h3, h4⟩
  · cases h
theorem ix_lst {p : Addr} {x : Val} (h : S p = some (.lst vs)) (e : atI vs i = some x) (q : P x S) : semIx (.ref p) (.int i) S P := ix_tup _ (by simp [h]) (fun z q => nomatch q) e q
theorem atI_natE {α : Type} {xs : List α} {n : Nat} : atI xs (n : Int) = xs[n]? := by
  unfold atI ixN
  rw [if_pos (by omega)]
  by_cases h : n < xs.length
  · rw [if_pos (by omega)]; simp
  · rw [if_neg (by omega), List.getElem?_eq_none (by omega)]; rfl
@[simp] theorem atI_0 {α : Type} {xs : List α} : atI xs 0 = xs[0]? := atI_natE (n := 0)
@[simp] theorem atI_1 {α : Type} {xs : List α} : atI xs 1 = xs[1]? := atI_natE (n := 1)
@[simp] theorem atI_2 {α : Type} {xs : List α} : atI xs 2 = xs[2]? := atI_natE (n := 2)
@[simp] theorem atI_3 {α : Type} {xs : List α} : atI xs 3 = xs[3]? := atI_natE (n := 3)
@[simp] theorem atI_4 {α : Type} {xs : List α} : atI xs 4 = xs[4]? := atI_natE (n := 4)
@[simp] theorem atI_5 {α : Type} {xs : List α} : atI xs 5 = xs[5]? := atI_natE (n := 5)
@[simp] theorem atI_m1 {α : Type} {xs : List α} : atI xs (-1) = xs.getLast? := by
  unfold atI ixN
  rw [if_neg (by decide), List.getLast?_eq_getElem?]
  by_cases h : -(xs.length : Int) ≤ -1
  · rw [if_pos h]
    show xs[(-1 + (xs.length : Int)).toNat]? = _
    rw [show (-1 + (xs.length : Int)).toNat = xs.length - 1 by omega]
  · rw [if_neg h, show xs = [] by cases xs with | nil => rfl | cons _ _ => simp at h; omega]; rfl
@[simp] theorem len_tup : semBi .len [.tup vs] S P = P (.int vs.length) S := by
  refine propext ⟨?_, fun h => .inl ⟨vs, rfl, h⟩⟩
  rintro (⟨ws, h, p⟩ | ⟨kvs, h, _⟩)
  · cases h; exact p
  · cases h
@[simp] theorem len_scr : semBi .len [.scr vs] S P = P (.int vs.length) S := by
  refine propext ⟨?_, fun h => .inl ⟨vs, rfl, h⟩⟩
  rintro (⟨ws, h, p⟩ | ⟨kvs, h, _⟩)
  · cases h; exact p
  · cases h
@[simp] theorem len_str {z : Str} : semBi .len [.str z] S P = (z.length ≤ 16777216 ∧ P (.int z.length) S) := rfl
theorem len_lst {p : Addr} (h : S p = some (.lst vs)) (q : P (.int vs.length) S) : semBi .len [.ref p] S P := .inl ⟨vs, by simp [h], q⟩
theorem len_dic {p : Addr} {kvs : List (Val × Val)} (h : S p = some (.dic kvs)) (q : P (.int kvs.length) S) : semBi .len [.ref p] S P := .inr ⟨kvs, by simp [h], q⟩
@[simp] theorem bi_int_bl {b : Bool} : semBi .int_ [.bl b] S P = P (.int (if b then 1 else 0)) S := rfl
@[simp] theorem bi_int_int : semBi .int_ [.int i] S P = P (.int i) S := rfl
@[simp] theorem bi_min : semBi .min_ [.int i, .int j] S P = P (.int (if j < i then j else i)) S := rfl
@[simp] theorem bi_max : semBi .max_ [.int i, .int j] S P = P (.int (if j > i then j else i)) S := rfl
@[simp] theorem bi_tuple_tup : semBi .tuple_ [.tup vs] S P = P (.tup vs) S := rfl
theorem bi_tuple_lst {p : Addr} (h : S p = some (.lst vs)) (q : P (.tup vs) S) : semBi .tuple_ [.ref p] S P := ⟨vs, by simp [h], q⟩
theorem bi_list_lst {p : Addr} (h : S p = some (.lst vs)) (q : allo S (.lst vs) P) : semBi .list_ [.ref p] S P := .inl ⟨vs, by simp [h], q⟩
theorem bi_all {p : Addr} {bs : List Bool} (h : S p = some (.lst (bs.map Val.bl))) (q : P (.bl (bs.all id)) S) : semBi .all_ [.ref p] S P := ⟨bs, by simp [h], q⟩
theorem bi_any {p : Addr} {bs : List Bool} (h : S p = some (.lst (bs.map Val.bl))) (q : P (.bl (bs.any id)) S) : semBi .any_ [.ref p] S P := ⟨bs, by simp [h], q⟩
@[simp] theorem sl_tup {lo hi : Option Int} : semSl (.tup vs) lo hi S P = P (.tup (cut vs lo hi)) S := rfl
theorem sl_lst {p : Addr} {lo hi : Option Int} (h : S p = some (.lst vs)) (q : allo S (.lst (cut vs lo hi)) P) : semSl (.ref p) lo hi S P := ⟨vs, by simp [h], q⟩
@[simp] theorem rev_tup : semRev (.tup vs) S P = P (.tup vs.reverse) S := rfl
theorem rev_lst {p : Addr} (h : S p = some (.lst vs)) (q : allo S (.lst vs.reverse) P) : semRev (.ref p) S P := ⟨vs, by simp [h], q⟩
theorem mt_app {p : Addr} {K : MT → Prop} (h : S p = some (.lst vs)) (q : K .list) : ∃ T, mtTy .append (.ref p) S = some T ∧ K T := ⟨.list, by simp [mtTy, h], q⟩
theorem do_app {p : Addr} (h : S p = some (.lst vs)) (hl : vs.length < 16777216) (q : P .non (S.put p (.lst (vs ++ [v])))) : semMt .append .list (.ref p) [v] S P := ⟨p, vs, rfl, h, hl, q⟩
theorem mt_rem {p : Addr} {K : MT → Prop} (h : S p = some (.lst vs)) (q : K .list) : ∃ T, mtTy .remove (.ref p) S = some T ∧ K T := ⟨.list, by simp [mtTy, h], q⟩
theorem do_rem {p : Addr} {ys : List Str} {z : Str} {j : Nat} (h : S p = some (.lst (ys.map .str))) (hj : ys[j]? = some z) (n : ∀ m, m < j → ys[m]? ≠ some z) (q : P .non (S.put p (.lst ((ys.eraseIdx j).map .str)))) : semMt .remove .list (.ref p) [.str z] S P := ⟨p, ys, z, j, rfl, rfl, h, hj, n, q⟩
theorem mt_idx {p : Addr} {K : MT → Prop} (h : S p = some (.lst vs)) (q : K .list) : ∃ T, mtTy .index (.ref p) S = some T ∧ K T := ⟨.list, by simp [mtTy, h], q⟩
theorem mt_idxK {K : MT → Prop} (q : K .tuple) : ∃ T, mtTy .index (.kt vs) S = some T ∧ K T := ⟨.tuple, rfl, q⟩
theorem do_idxK {ys : List Str} {z : Str} {j : Nat} (h : ys[j]? = some z) (n : ∀ m, m < j → ys[m]? ≠ some z) (q : P (.int (j : Nat)) S) : semMt .index .tuple (.kt (ys.map Val.str)) [.str z] S P := ⟨ys, z, j, rfl, rfl, h, n, q⟩
theorem set_lst {p : Addr} {k : Int} {j : Nat} {P : Sto → Prop} (h : S p = some (.lst vs)) (hk : ixN vs.length k = some j) (q : P (S.put p (.lst (vs.set j v)))) : semSet (.ref p) (.int k) v S P := .inl ⟨p, vs, k, j, rfl, rfl, h, hk, q⟩
theorem set_dic {p : Addr} {kvs : List (Val × Val)} {P : Sto → Prop} (h : S p = some (.dic kvs)) (s : suits kvs w = true) (hl : kvs.length < 16777216) (q : P (S.put p (.dic (dput kvs w v)))) : semSet (.ref p) w v S P := .inr ⟨p, kvs, rfl, h, s, hl, q⟩
@[simp] theorem asg_nm {i : Nat} {P : Env → Prop} : asgT (.nm i) v ρ P = P (ρ.set i (some v)) := rfl
@[simp] theorem asg_tp {is : List Nat} {P : Env → Prop} : asgT (.tp is) (.tup vs) ρ P = (vs.length = is.length ∧ P (stores is vs ρ)) := by
  refine propext ⟨fun ⟨ws, h, p⟩ => by cases h; exact p, fun p => ⟨vs, rfl, p⟩⟩
@[simp] theorem stores_cons {i : Nat} {is : List Nat} : stores (i :: is) (v :: vs) ρ = stores is vs (ρ.set i (some v)) := rfl
@[simp] theorem stores_nil : stores [] vs ρ = ρ := by unfold stores; rfl
@[simp] theorem wipe_consE {i : Nat} {is : List Nat} : wipeE ρ (i :: is) = (wipeE ρ is).set i none := rfl
@[simp] theorem wipe_nilE : wipeE ρ [] = ρ := rfl
end

theorem Ext.thenB {S0 S S' : Sto} {p : Addr} (e : Ext S0 S) (x : ExtB p S S') (h : S0 p = Option.none) : Ext S0 S' := ((ExtB.of e).trans x).ext h
theorem allo_ok {S : Sto} {o : Ob} {P : VP} (h : ∀ (q : Addr) (S' : Sto), S q = none → Ext S S' → S' q = some o → P (.ref q) S') : allo S o P := fun q hq => h q (S.put q o) hq (.new hq) put_same
theorem ix_any {S : Sto} {p : Addr} {vs : List Val} {i : Int} {P : VP} (h : S p = some (.lst vs)) (h0 : 0 ≤ i) (h1 : i < vs.length) (q : ∀ v, vs[i.toNat]? = some v → P v S) : semIx (.ref p) (.int i) S P := by
  have hn : i.toNat < vs.length := by omega
  refine ix_lst (x := vs[i.toNat]) h ?_ (q _ (List.getElem?_eq_getElem hn))
  have e : ∀ n : Nat, (hn : n < vs.length) → atI vs (n : Int) = some vs[n] := fun n hn => by rw [atI_natE]; exact List.getElem?_eq_getElem hn
  have := e i.toNat hn
  rwa [show ((i.toNat : Nat) : Int) = i by omega] at this
theorem ix_str {z : Str} {i : Int} {c : Nat} {S : Sto} {P : VP} (hl : z.length ≤ 16777216) (h : atI z.cps.toList i = some c) (q : P (.str ⟨#[c]⟩) S) : semIx (.str z) (.int i) S P := ⟨hl, c, h, q⟩
end FW
namespace FW
open PySem PySem.Spec PyProof.Rows L2
theorem mt_ext {S : Sto} {p : Addr} {vs : List Val} {K : MT → Prop} (h : S p = some (.lst vs)) (q : K .list) : ∃ T, mtTy .extend (.ref p) S = some T ∧ K T := ⟨.list, by simp [mtTy, h], q⟩
theorem do_ext {S : Sto} {p r : Addr} {vs ws : List Val} {P : VP} (h : S p = some (.lst vs)) (g : S r = some (.lst ws)) (hl : vs.length + ws.length ≤ 16777216) (q : P .non (S.put p (.lst (vs ++ ws)))) : semMt .extend .list (.ref p) [.ref r] S P := ⟨p, r, vs, ws, rfl, rfl, h, g, hl, q⟩
end FW

set_option Elab.async false
set_option linter.all false
set_option maxRecDepth 100000
/-! Sheets: forests of parts. -/
namespace FW
open PySem PySem.Spec PyProof.Rows L2
/-- a forest: a part (name, box, word, rank, head, its parts), then the rest -/
inductive Fo where
  | nil
  | cons (n : Str) (b : Val) (w : Str) (r : Int) (h : Val) (cs ts : Fo)
def Fo.vs : Fo → List Val
  | .nil => []
  | .cons n b w r h cs ts => .tup [.str n, b, .str w, .int r, h, .tup cs.vs] :: ts.vs
def Fo.size : Fo → Nat
  | .nil => 0
  | .cons _ _ _ _ _ cs ts => 1 + cs.size + ts.size
def Fo.deep : Fo → Nat
  | .nil => 0
  | .cons _ _ _ _ _ cs ts => max (cs.deep + 1) ts.deep
/-- an entry: place, part, the names around it -/
structure Ent where
  pl : List Val
  n : Str
  b : Val
  w : Str
  r : Int
  h : Val
  cs : Fo
  anc : List Str
def Ent.pv (e : Ent) : Val := .tup [.str e.n, e.b, .str e.w, .int e.r, e.h, .tup e.cs.vs]
def lay (anc : List Str) (pl : List Val) : Nat → Fo → List Ent
  | _, .nil => []
  | k, .cons n b w r h cs ts => ⟨pl ++ [.int (k : Nat)], n, b, w, r, h, cs, anc⟩ :: (lay (anc ++ [n]) (pl ++ [.int (k : Nat)]) 0 cs ++ lay anc pl (k + 1) ts)
theorem lay_len : ∀ (fo : Fo) (anc : List Str) (pl : List Val) (k : Nat), (lay anc pl k fo).length = fo.size
  | .nil, _, _, _ => rfl
  | .cons n b w r h cs ts, anc, pl, k => by
    unfold lay Fo.size
    rw [List.length_cons, List.length_append, lay_len cs, lay_len ts]; omega
/-- entries as they lie in the store -/
def EntAt (S : Sto) (v : Val) (e : Ent) : Prop := ∃ a, v = .tup [.tup e.pl, e.pv, .ref a] ∧ S a = some (.lst (e.anc.map .str))
inductive EntsAt (S : Sto) : List Val → List Ent → Prop
  | nil : EntsAt S [] []
  | cons {v : Val} {e : Ent} {vs : List Val} {es : List Ent} : EntAt S v e → EntsAt S vs es → EntsAt S (v :: vs) (e :: es)
theorem EntsAt.append {S : Sto} : ∀ {vs : List Val} {es : List Ent} {ws : List Val} {fs : List Ent}, EntsAt S vs es → EntsAt S ws fs → EntsAt S (vs ++ ws) (es ++ fs)
  | _, _, _, _, .nil, b => b
  | _, _, _, _, .cons h t, b => .cons h (t.append b)
theorem EntsAt.len {S : Sto} : ∀ {vs : List Val} {es : List Ent}, EntsAt S vs es → vs.length = es.length
  | _, _, .nil => rfl
  | _, _, .cons _ t => by rw [List.length_cons, List.length_cons, t.len]
theorem EntsAt.ext {S S' : Sto} (x : Ext S S') : ∀ {vs : List Val} {es : List Ent}, EntsAt S vs es → EntsAt S' vs es
  | _, _, .nil => .nil
  | _, _, .cons ⟨a, h1, h2⟩ t => .cons ⟨a, h1, x a _ h2⟩ (t.ext x)
/-- .. none of them at p -/
theorem EntsAt.extB {S S' : Sto} {p : Addr} (x : ExtB p S S') : ∀ {vs : List Val} {es : List Ent}, EntsAt S vs es → (∀ v e a, v ∈ vs → e ∈ es → v = .tup [.tup e.pl, e.pv, .ref a] → a ≠ p) → EntsAt S' vs es
  | _, _, .nil, _ => .nil
  | _, _, .cons ⟨a, h1, h2⟩ t, n => .cons ⟨a, h1, x a _ (n _ _ a List.mem_cons_self List.mem_cons_self h1) h2⟩ (t.extB x fun v e b hv he => n v e b (List.mem_cons_of_mem _ hv) (List.mem_cons_of_mem _ he))
/-- of the names lists Q holds -/
def Off (Q : Addr → Prop) (vs : List Val) : Prop := ∀ v ∈ vs, ∃ x y a, v = .tup [x, y, .ref a] ∧ Q a
theorem Off.imp {Q R : Addr → Prop} {vs : List Val} (h : Off Q vs) (i : ∀ a, Q a → R a) : Off R vs := fun v hv => let ⟨x, y, a, e, q⟩ := h v hv; ⟨x, y, a, e, i a q⟩
theorem Off.app {Q : Addr → Prop} {vs ws : List Val} (a : Off Q vs) (b : Off Q ws) : Off Q (vs ++ ws) := fun v hv => (List.mem_append.mp hv).elim (a v) (b v)
theorem Off.at {Q : Addr → Prop} {x y : Val} {a : Addr} {vs : List Val} (h : Off Q (.tup [x, y, .ref a] :: vs)) : Q a ∧ Off Q vs := by
  refine ⟨?_, fun v hv => h v (List.mem_cons_of_mem _ hv)⟩
  obtain ⟨_, _, b, e, q⟩ := h _ List.mem_cons_self
  cases e
  exact q
theorem EntsAt.off {S S' : Sto} {p : Addr} (x : ExtB p S S') : ∀ {vs : List Val} {es : List Ent}, EntsAt S vs es → Off (· ≠ p) vs → EntsAt S' vs es
  | _, _, .nil, _ => .nil
  | _, _, .cons ⟨a, h1, h2⟩ t, n => by
    subst h1
    exact .cons ⟨a, rfl, x a _ n.at.1 h2⟩ (t.off x n.at.2)
theorem ExtB.none {S S' : Sto} {p a : Addr} (e : ExtB p S S') (n : a ≠ p) (h : S' a = none) : S a = none := by
  cases q : S a with
  | none => rfl
  | some o => rw [e a o n q] at h; cases h
abbrev ents (fo : Fo) : List Ent := lay [] [] 0 fo
/-- what seen_or_open finds: found, shut so far -/
def sees (only : Bool) : List Ent → List Str → List Str → List Str × List Str
  | [], f, s => (f, s)
  | e :: es, f, s => if (decide (e.w ≠ "free") && (only || decide (e.w = "hidden")) || e.anc.any fun x => decide (x ∈ s)) = true then sees only es f (s ++ [e.n]) else sees only es (f ++ [e.n]) s
abbrev opens (fo : Fo) : List Str := (sees true (ents fo) [] []).1
theorem memW_str (x : Str) : ∀ ys : List Str, memW (.str x) (ys.map .str) = decide (x ∈ ys)
  | [] => by simp [memW]
  | y :: ys => by
    have ih := memW_str x ys
    unfold memW at ih ⊢
    rw [List.map_cons, List.any_cons, ih]
    show ((y == x) || _) = _
    by_cases h : x = y
    · subst h; simp
    · have : (y == x) = false := by simpa using fun e => h e.symm
      rw [this]; simp [h]
theorem flats_str (ys : List Str) : (ys.map Val.str).all flatW = true := by simp [flatW]
theorem EntsAt.cons_inv {S : Sto} {v : Val} {vs : List Val} {es : List Ent} (h : EntsAt S (v :: vs) es) : ∃ e r, es = e :: r ∧ EntAt S v e ∧ EntsAt S vs r := by
  cases h with
  | cons a b => exact ⟨_, _, rfl, a, b⟩
theorem sees_len (only : Bool) : ∀ (es : List Ent) (f s : List Str), (sees only es f s).1.length + (sees only es f s).2.length = f.length + s.length + es.length
  | [], f, s => by simp [sees]
  | e :: es, f, s => by
    unfold sees
    split
    · rw [sees_len only es]; simp; omega
    · rw [sees_len only es]; simp; omega

theorem lay_anc : ∀ (fo : Fo) (anc : List Str) (pl : List Val) (k : Nat) (e : Ent), e ∈ lay anc pl k fo → e.anc.length ≤ anc.length + fo.size
  | .nil, _, _, _, e, h => by simp [lay] at h
  | .cons n b w r hh cs ts, anc, pl, k, e, h => by
    simp only [lay, List.mem_cons, List.mem_append] at h
    unfold Fo.size
    rcases h with rfl | h | h
    · simp
    · have := lay_anc cs _ _ _ e h
      simp at this; omega
    · have := lay_anc ts _ _ _ e h
      omega
theorem ents_anc {fo : Fo} {e : Ent} (h : e ∈ ents fo) : e.anc.length ≤ fo.size := by
  have := lay_anc fo [] [] 0 e h
  simpa using this

/-! ### dicts of the names -/
def kvs (f : Ent → Val) (es : List Ent) : List (Val × Val) := es.map fun e => (.str e.n, f e)
theorem kvs_allK (f : Ent → Val) : ∀ es : List Ent, allK (kvs f es) = true
  | [] => rfl
  | e :: es => by
    have := kvs_allK f es
    unfold allK kvs at this ⊢
    rw [List.map_cons, List.all_cons, this]; rfl
theorem kvs_suits (f : Ent → Val) (es : List Ent) (x : Str) : suits (kvs f es) (.str x) = true := by unfold suits; rw [kvs_allK]; rfl
theorem kvs_put (f : Ent → Val) (es : List Ent) (e : Ent) (h : e.n ∉ es.map Ent.n) : dput (kvs f es) (.str e.n) (f e) = kvs f (es ++ [e]) := by
  unfold dput
  rw [if_neg]
  · unfold kvs; simp
  · intro z
    obtain ⟨p, hp, hq⟩ := List.any_eq_true.mp z
    unfold kvs at hp
    obtain ⟨d, hd, rfl⟩ := List.mem_map.mp hp
    have : d.n = e.n := by simpa using hq
    exact h (List.mem_map.mpr ⟨d, hd, this⟩)
/-- what the names' dict has -/
def at_ (es : List Ent) (x : Str) : Option Ent := es.find? fun e => decide (e.n = x)
theorem kvs_get (f : Ent → Val) (x : Str) : ∀ es : List Ent, dget (kvs f es) (.str x) = (at_ es x).map f
  | [] => rfl
  | e :: es => by
    have ih := kvs_get f x es
    unfold dget kvs at_ at ih ⊢
    rw [List.map_cons, List.find?_cons, List.find?_cons]
    by_cases h : e.n = x
    · subst h; simp
    · have h1 : decide (Val.str e.n = Val.str x) = false := by simpa using h
      have h2 : decide (e.n = x) = false := by simpa using h
      simp only [h1, h2]
      exact ih
theorem at_mem {es : List Ent} {x : Str} (h : x ∈ es.map Ent.n) : ∃ e, at_ es x = some e ∧ e ∈ es ∧ e.n = x := by
  obtain ⟨d, hd, rfl⟩ := List.mem_map.mp h
  unfold at_
  cases q : es.find? fun e => decide (e.n = d.n) with
  | none => have := List.find?_eq_none.mp q d hd; simp at this
  | some e => exact ⟨e, rfl, List.mem_of_find?_eq_some q, by simpa using List.find?_some q⟩
theorem at_uniq {es : List Ent} (nd : (es.map Ent.n).Nodup) {e : Ent} (h : e ∈ es) : at_ es e.n = some e := by
  induction es with
  | nil => cases h
  | cons d es ih =>
    rw [List.map_cons, List.nodup_cons] at nd
    unfold at_
    rw [List.find?_cons]
    rcases List.mem_cons.mp h with rfl | h
    · simp
    · have : d.n ≠ e.n := fun z => nd.1 (List.mem_map.mpr ⟨e, h, z.symm⟩)
      rw [decide_eq_false this]
      exact ih nd.2 h
def rkOf (es : List Ent) (x : Str) : Int := ((at_ es x).map Ent.r).getD 0
def wdOf (es : List Ent) (x : Str) : Str := ((at_ es x).map Ent.w).getD ""
theorem sees_sub (only : Bool) : ∀ (es : List Ent) (f s : List Str) (x : Str), x ∈ (sees only es f s).1 → x ∈ f ∨ x ∈ es.map Ent.n
  | [], f, s, x, h => .inl h
  | e :: es, f, s, x, h => by
    unfold sees at h
    split at h
    · rcases sees_sub only es _ _ x h with h | h
      · exact .inl h
      · exact .inr (List.mem_cons_of_mem _ h)
    · rcases sees_sub only es _ _ x h with h | h
      · rcases List.mem_append.mp h with h | h
        · exact .inl h
        · rw [List.mem_singleton.mp h]; exact .inr List.mem_cons_self
      · exact .inr (List.mem_cons_of_mem _ h)
theorem opens_sub {fo : Fo} {x : Str} (h : x ∈ opens fo) : x ∈ (ents fo).map Ent.n := (sees_sub true _ _ _ x h).resolve_left fun z => by cases z
/-! ### the walk -/
def quad (es : List Ent) (i : Nat) (x : Str) : Val := .tup [.int (if rkOf es x = 0 then 1 else 0), .int (rkOf es x), .int (i : Nat), .str x]
def quads (es : List Ent) : Nat → List Str → List Val
  | _, [] => []
  | i, x :: xs => quad es i x :: quads es (i + 1) xs
def fourth : Val → Str
  | .tup [_, _, _, .str x] => x
  | _ => ""
def walkF (fo : Fo) : List Str := ((quads (ents fo) 0 (opens fo)).mergeSort vle).map fourth
theorem quads_mem {es : List Ent} : ∀ {i : Nat} {xs : List Str} {v : Val}, v ∈ quads es i xs → ∃ j x, v = quad es j x ∧ x ∈ xs
  | i, [], v, h => by cases h
  | i, y :: xs, v, h => by
    unfold quads at h
    rcases List.mem_cons.mp h with rfl | h
    · exact ⟨i, y, rfl, List.mem_cons_self⟩
    · obtain ⟨j, x, e, hx⟩ := quads_mem h
      exact ⟨j, x, e, List.mem_cons_of_mem _ hx⟩
theorem quads_len {es : List Ent} : ∀ {i : Nat} {xs : List Str}, (quads es i xs).length = xs.length
  | i, [] => rfl
  | i, y :: xs => by unfold quads; rw [List.length_cons, quads_len, List.length_cons]
theorem quads_app {es : List Ent} : ∀ {i : Nat} {xs ys : List Str}, quads es i (xs ++ ys) = quads es i xs ++ quads es (i + xs.length) ys
  | i, [], ys => rfl
  | i, y :: xs, ys => by
    rw [List.cons_append, quads, quads, quads_app, List.cons_append, List.length_cons, show i + 1 + xs.length = i + (xs.length + 1) by omega]
theorem quads_purs {es : List Ent} : ∀ {i : Nat} {xs : List Str}, Val.purs (quads es i xs) = true
  | i, [] => rfl
  | i, y :: xs => by rw [quads, Val.purs, quads_purs]; rfl
theorem quads_alike {es : List Ent} {i : Nat} {xs : List Str} : PySem.W.AllAlike ((quads es i xs).map Val.pd) := by
  intro d hd d' hd'
  obtain ⟨v, hv, rfl⟩ := List.mem_map.mp hd
  obtain ⟨v', hv', rfl⟩ := List.mem_map.mp hd'
  obtain ⟨_, _, rfl, _⟩ := quads_mem hv
  obtain ⟨_, _, rfl, _⟩ := quads_mem hv'
  rfl
theorem quads_sortable {es : List Ent} {i : Nat} {xs : List Str} : PySem.W.Sortable ((quads es i xs).map Val.pd) := by
  refine .inl fun d hd => ?_
  obtain ⟨v, hv, rfl⟩ := List.mem_map.mp hd
  obtain ⟨_, _, rfl, _⟩ := quads_mem hv
  exact ⟨_, _, rfl⟩
theorem quads_depth {es : List Ent} {i : Nat} {xs : List Str} : ∀ v ∈ quads es i xs, v.pd.depth ≤ 60 := by
  intro v hv
  obtain ⟨_, _, rfl, _⟩ := quads_mem hv
  simp [quad, Val.pd, Val.pds, PyData.depth, PyData.depthAll]

/-- the first name whose word is so -/
def firstW (es : List Ent) (w : Str) (xs : List Str) : Option Str := xs.find? fun x => decide (wdOf es x = w)
def optV : Option Str → Val
  | none => .non
  | some x => .str x
theorem lay_pre : ∀ (fo : Fo) (anc : List Str) (pl : List Val) (k : Nat) (done : List Ent) (e : Ent) (r : List Ent), lay anc pl k fo = done ++ e :: r → ∀ x ∈ e.anc, x ∈ anc ∨ x ∈ done.map Ent.n
  | .nil, anc, pl, k, done, e, r, h, x, hx => by simp [lay] at h
  | .cons n b w rr hh cs ts, anc, pl, k, done, e, r, h, x, hx => by
    rw [lay] at h
    cases done with
    | nil =>
      simp only [List.nil_append, List.cons.injEq] at h
      rw [← h.1] at hx
      exact .inl hx
    | cons d done =>
      simp only [List.cons_append, List.cons.injEq] at h
      obtain ⟨rfl, h⟩ := h
      rcases List.append_eq_append_iff.mp h with ⟨m, e1, e2⟩ | ⟨m, e1, e2⟩
      · rcases lay_pre ts anc pl (k + 1) m e r e2 x hx with z | z
        · exact .inl z
        · right
          rw [e1, List.map_cons, List.map_append]
          exact List.mem_cons_of_mem _ (List.mem_append_right _ z)
      · cases m with
        | nil =>
          rw [List.nil_append] at e2
          rcases lay_pre ts anc pl (k + 1) [] e r e2.symm x hx with z | z
          · exact .inl z
          · cases z
        | cons e' m =>
          simp only [List.cons_append, List.cons.injEq] at e2
          obtain ⟨rfl, e2⟩ := e2
          rcases lay_pre cs _ _ _ done e m e1 x hx with z | z
          · rcases List.mem_append.mp z with z | z
            · exact .inl z
            · right; rw [List.mem_singleton.mp z]; exact List.mem_cons_self
          · right; exact List.mem_cons_of_mem _ z
theorem ents_pre {fo : Fo} {done : List Ent} {e : Ent} {r : List Ent} (h : ents fo = done ++ e :: r) {x : Str} (hx : x ∈ e.anc) : x ∈ done.map Ent.n := (lay_pre fo [] [] 0 done e r h x hx).resolve_left fun z => by cases z
theorem ents_anc_mem {fo : Fo} {e : Ent} (h : e ∈ ents fo) {x : Str} (hx : x ∈ e.anc) : x ∈ (ents fo).map Ent.n := by
  obtain ⟨done, r, q⟩ := List.append_of_mem h
  have := ents_pre q hx
  rw [q, List.map_append]
  exact List.mem_append_left _ this

theorem EntsAt.offNone {S : Sto} {d : Addr} (hd : S d = none) : ∀ {vs : List Val} {es : List Ent}, EntsAt S vs es → Off (· ≠ d) vs
  | _, _, .nil => fun v hv => nomatch hv
  | _, _, .cons ⟨a, h1, h2⟩ t => fun v hv => by
    rcases List.mem_cons.mp hv with rfl | hv
    · exact ⟨_, _, a, h1, fun z => by rw [z, hd] at h2; cases h2⟩
    · exact t.offNone hd v hv

theorem cut_from {α : Type} (vs : List α) (n : Nat) : cut vs (some (n : Int)) none = vs.drop n := by
  unfold cut
  rw [HT.sIx_nat, HT.sIx_none]
  by_cases h : n ≤ vs.length
  · rw [Nat.min_eq_left h, List.take_of_length_le (by rw [List.length_drop]; exact Nat.le_refl _)]
  · rw [Nat.min_eq_right (by omega), List.drop_eq_nil_of_le (Nat.le_refl _), List.drop_eq_nil_of_le (by omega), List.take_nil]
theorem cut_to {α : Type} (vs : List α) (n : Nat) : cut vs none (some (n : Int)) = vs.take n := by
  unfold cut
  rw [HT.sIx_nat, HT.sIx_none, List.drop_zero, Nat.sub_zero]
  by_cases h : n ≤ vs.length
  · rw [Nat.min_eq_left h]
  · rw [Nat.min_eq_right (by omega), List.take_of_length_le (Nat.le_refl _), List.take_of_length_le (by omega)]
def headV : List Str → Val
  | [] => .non
  | x :: _ => .str x
/-- the first of the row that stands among the fresh, or the first fresh -/
def dueV (row fresh : List Str) : Val := match row.find? fun y => decide (y ∈ fresh) with
  | some y => .str y
  | none => headV fresh
/-- why the part isn't open -/
def whyV (es : List Ent) (e : Ent) : Val := match firstW es "hidden" (e.anc ++ [e.n]) with
  | some x => .tup [.str "hidden", .str x]
  | none => match firstW es "shut" (e.anc ++ [e.n]) with
    | some x => .tup [.str "shut", .str x]
    | none => .non
end FW

set_option Elab.async false
set_option linter.all false
set_option maxRecDepth 100000
/-! The walk's order; rows as lines. -/
namespace FW
open PySem PySem.Spec PyProof.Rows L2
theorem flatMap_eq {α β : Type} {f g : α → List β} : ∀ {l : List α}, (∀ a ∈ l, f a = g a) → l.flatMap f = l.flatMap g
  | [], _ => rfl
  | a :: l, h => by rw [List.flatMap_cons, List.flatMap_cons, h a List.mem_cons_self, flatMap_eq fun b hb => h b (List.mem_cons_of_mem _ hb)]
/-! ### sorting -/
theorem vle_trans (a b c : Val) (h : vle a b = true) (g : vle b c = true) : vle a c = true := (PySem.W.sortLe_total (listOrd itemOrd) false fun b => PySem.W.keyToks (Val.pd b)).trans a b c h g
theorem vle_total (a b : Val) : (vle a b || vle b a) = true := Bool.or_eq_true_iff.mpr ((PySem.W.sortLe_total (listOrd itemOrd) false fun b => PySem.W.keyToks (Val.pd b)).total a b)
theorem vle_toks {a b : Val} (h : vle a b = true) (g : vle b a = true) : PySem.W.keyToks a.pd = PySem.W.keyToks b.pd := by
  unfold vle PySem.W.dataLe PySem.W.sortLe at h g
  simp only [cond_false, Bool.not_eq_true'] at h g
  exact (listOrd itemOrd).total _ _ g h
def q4 (z r j : Int) (x : Str) : Val := .tup [.int z, .int r, .int j, .str x]
theorem q4_lt {z r j z' r' j' : Int} {x x' : Str} (h : z < z' ∨ (z = z' ∧ (r < r' ∨ (r = r' ∧ j < j')))) : vle (q4 z r j x) (q4 z' r' j' x') = true := by
  unfold vle PySem.W.dataLe PySem.W.sortLe
  simp only [cond_false, Bool.not_eq_true', q4, Val.pd, Val.pds, PySem.W.keyToks, PySem.W.keyToksAll, List.cons_append, List.nil_append]
  show PyProof.Rows.lexLt itemOrd _ _ = false
  simp only [PyProof.Rows.lexLt, itemLt]
  rcases h with h | ⟨rfl, h | ⟨rfl, h⟩⟩
  · simp; omega
  · simp; omega
  · simp; omega

theorem quad_is (es : List Ent) (j : Nat) (x : Str) : quad es j x = q4 (if rkOf es x = 0 then 1 else 0) (rkOf es x) (j : Nat) x := rfl
theorem q4_inj {z r j z' r' j' : Int} {x x' : Str} (h : PySem.W.keyToks (q4 z r j x).pd = PySem.W.keyToks (q4 z' r' j' x').pd) : q4 z r j x = q4 z' r' j' x' := by
  simp only [q4, Val.pd, Val.pds, PySem.W.keyToks, PySem.W.keyToksAll, List.cons_append, List.nil_append, List.cons.injEq, Sum.inl.injEq, Sum.inr.injEq, true_and, and_true] at h
  obtain ⟨rfl, rfl, rfl, h⟩ := h
  have : x = x' := Str.ext' (Array.toList_inj.mp h)
  rw [this]
/-- the class of a quad: its rank -/
def rankQ : Val → Int
  | .tup [_, .int r, _, _] => r
  | _ => 0
/-- a before b -/
def Bef (es : List Ent) (a b : Val) : Prop := ∃ j j' x x', a = quad es j x ∧ b = quad es j' x' ∧ j < j'
theorem quads_bef {es : List Ent} : ∀ {i : Nat} {xs : List Str}, (quads es i xs).Pairwise (Bef es)
  | i, [] => .nil
  | i, x :: xs => by
    rw [quads]
    refine List.pairwise_cons.mpr ⟨fun b hb => ?_, quads_bef⟩
    have aux : ∀ {i : Nat} {xs : List Str} {b : Val}, b ∈ quads es i xs → ∃ j y, b = quad es j y ∧ i ≤ j := by
      intro i xs b hb
      induction xs generalizing i with
      | nil => cases hb
      | cons y ys ih =>
        rw [quads] at hb
        rcases List.mem_cons.mp hb with rfl | hb
        · exact ⟨i, y, rfl, Nat.le_refl _⟩
        · obtain ⟨j, z, e, h⟩ := ih hb
          exact ⟨j, z, e, by omega⟩
    obtain ⟨j, y, rfl, h⟩ := aux hb
    exact ⟨i, j, x, y, rfl, rfl, by omega⟩
theorem bef_vle {es : List Ent} {a b : Val} (h : Bef es a b) (e : rankQ a = rankQ b) : vle a b = true := by
  obtain ⟨j, j', x, x', rfl, rfl, hj⟩ := h
  rw [quad_is, quad_is] at e ⊢
  have e : rkOf es x = rkOf es x' := e
  rw [e]
  exact q4_lt (.inr ⟨rfl, .inr ⟨rfl, by omega⟩⟩)
def keyR (r : Int) : Int := if r = 0 then 1 else 0
theorem cls_vle {es : List Ent} {j j' : Nat} {x x' : Str} (h : keyR (rkOf es x) < keyR (rkOf es x') ∨ (keyR (rkOf es x) = keyR (rkOf es x') ∧ rkOf es x < rkOf es x')) : vle (quad es j x) (quad es j' x') = true := by
  rw [quad_is, quad_is]
  exact q4_lt (h.imp id fun ⟨a, b⟩ => ⟨a, .inl b⟩)
/-- ranks in the walk's order -/
def Upw (ks : List Int) : Prop := ks.Pairwise fun a b => keyR a < keyR b ∨ (keyR a = keyR b ∧ a < b)
def byRank (ks : List Int) (vs : List Val) : List Val := ks.flatMap fun k => vs.filter fun v => decide (rankQ v = k)
theorem byRank_perm : ∀ (ks : List Int) (vs : List Val), ks.Nodup → (∀ v ∈ vs, rankQ v ∈ ks) → (byRank ks vs).Perm vs
  | [], vs, _, h => by
    cases vs with
    | nil => exact .nil
    | cons v vs => exact absurd (h v List.mem_cons_self) (by simp)
  | k :: ks, vs, nd, h => by
    rw [List.nodup_cons] at nd
    unfold byRank
    rw [List.flatMap_cons]
    have e : (ks.flatMap fun k => vs.filter fun v => decide (rankQ v = k)) = byRank ks (vs.filter fun v => !decide (rankQ v = k)) := by
      unfold byRank
      refine flatMap_eq fun k' hk' => ?_
      rw [List.filter_filter]
      refine List.filter_congr fun v _ => ?_
      by_cases hv : rankQ v = k'
      · have : ¬ rankQ v = k := fun z => nd.1 (by rw [← z, hv]; exact hk')
        simp [hv, show ¬ k' = k from fun z => this (hv.trans z)]
      · simp [hv]
    rw [e]
    refine ((byRank_perm ks _ nd.2 ?_).append_left _).trans (List.filter_append_perm _ _)
    intro v hv
    obtain ⟨hv, hk⟩ := List.mem_filter.mp hv
    rcases List.mem_cons.mp (h v hv) with z | z
    · simp [z] at hk
    · exact z
theorem byRank_sorted {es : List Ent} {i : Nat} {xs : List Str} : ∀ (ks : List Int), Upw ks → (byRank ks (quads es i xs)).Pairwise (fun a b => vle a b = true)
  | [], _ => .nil
  | k :: ks, h => by
    unfold Upw at h
    rw [List.pairwise_cons] at h
    unfold byRank
    rw [List.flatMap_cons, List.pairwise_append]
    refine ⟨?_, byRank_sorted ks h.2, fun a ha b hb => ?_⟩
    · refine List.Pairwise.imp_of_mem (fun {a b} ha hb hab => ?_) (quads_bef.filter _)
      refine bef_vle hab ?_
      have h1 := (List.mem_filter.mp ha).2
      have h2 := (List.mem_filter.mp hb).2
      rw [of_decide_eq_true h1, of_decide_eq_true h2]
    · obtain ⟨k', hk', hb⟩ := List.mem_flatMap.mp hb
      obtain ⟨ha, ka⟩ := List.mem_filter.mp ha
      obtain ⟨hb, kb⟩ := List.mem_filter.mp hb
      obtain ⟨j, x, rfl, _⟩ := quads_mem ha
      obtain ⟨j', x', rfl, _⟩ := quads_mem hb
      have ka : rkOf es x = k := of_decide_eq_true ka
      have kb : rkOf es x' = k' := of_decide_eq_true kb
      refine cls_vle ?_
      rw [ka, kb]
      exact h.1 k' hk'
theorem sort_byRank {es : List Ent} {i : Nat} {xs : List Str} (ks : List Int) (u : Upw ks) (nd : ks.Nodup) (h : ∀ x ∈ xs, rkOf es x ∈ ks) : (quads es i xs).mergeSort vle = byRank ks (quads es i xs) := by
  have hm : ∀ v ∈ quads es i xs, rankQ v ∈ ks := fun v hv => by
    obtain ⟨j, x, rfl, hx⟩ := quads_mem hv
    exact h x hx
  have p := byRank_perm ks (quads es i xs) nd hm
  refine List.Perm.eq_of_pairwise (le := fun a b => vle a b = true) (fun a b ha hb h1 h2 => ?_) (List.pairwise_mergeSort vle_trans vle_total _) (byRank_sorted ks u) ((List.mergeSort_perm _ _).trans p.symm)
  obtain ⟨j, x, rfl, _⟩ := quads_mem ((List.mergeSort_perm _ _).mem_iff.mp ha)
  obtain ⟨j', x', rfl, _⟩ := quads_mem (p.mem_iff.mp hb)
  rw [quad_is, quad_is] at h1 h2 ⊢
  exact q4_inj (vle_toks h1 h2)
theorem quads_filter {es : List Ent} (k : Int) : ∀ {i : Nat} {xs : List Str}, ((quads es i xs).filter fun v => decide (rankQ v = k)).map fourth = xs.filter fun x => decide (rkOf es x = k)
  | i, [] => rfl
  | i, x :: xs => by
    rw [quads, List.filter_cons, List.filter_cons]
    have e : rankQ (quad es i x) = rkOf es x := rfl
    rw [e]
    by_cases h : rkOf es x = k
    · rw [if_pos (decide_eq_true h), if_pos (decide_eq_true h), List.map_cons, quads_filter k]; rfl
    · rw [if_neg (by simpa using h), if_neg (by simpa using h), quads_filter k]
/-- the walk, by ranks -/
theorem walk_byRank (fo : Fo) (ks : List Int) (u : Upw ks) (nd : ks.Nodup) (h : ∀ x ∈ opens fo, rkOf (ents fo) x ∈ ks) : walkF fo = ks.flatMap fun k => (opens fo).filter fun x => decide (rkOf (ents fo) x = k) := by
  unfold walkF
  rw [sort_byRank ks u nd h]
  unfold byRank
  rw [List.map_flatMap]
  exact flatMap_eq fun k _ => quads_filter k
end FW

set_option Elab.async false
set_option linter.all false
set_option maxRecDepth 100000
/-! Rows as lines from the top to the part. -/
namespace FW
open PySem PySem.Spec PyProof.Rows L2
structure Tr where
  n : Str
  w : Str
  r : Int
abbrev Line := List Tr
/-- a forest told by its rows, in order; p: what is around -/
inductive RepF : Line → Fo → List Line → Prop
  | nil {p : Line} : RepF p .nil []
  | cons {p : Line} {t : Tr} {b h : Val} {cs ts : Fo} {R1 R2 : List Line} : RepF (p ++ [t]) cs R1 → RepF p ts R2 → RepF p (.cons t.n b t.w t.r h cs ts) ((p ++ [t]) :: (R1 ++ R2))
/-- an entry tells of a row -/
def EntLine (e : Ent) (l : Line) : Prop := ∃ q t, l = q ++ [t] ∧ e.n = t.n ∧ e.w = t.w ∧ e.r = t.r ∧ e.anc = q.map Tr.n
inductive Ents : List Ent → List Line → Prop
  | nil : Ents [] []
  | cons {e : Ent} {l : Line} {es : List Ent} {ls : List Line} : EntLine e l → Ents es ls → Ents (e :: es) (l :: ls)
theorem Ents.app : ∀ {es : List Ent} {ls : List Line} {fs : List Ent} {ms : List Line}, Ents es ls → Ents fs ms → Ents (es ++ fs) (ls ++ ms)
  | _, _, _, _, .nil, b => b
  | _, _, _, _, .cons h t, b => .cons h (t.app b)
theorem RepF.ents : ∀ {p : Line} {fo : Fo} {R : List Line}, RepF p fo R → ∀ (pl : List Val) (k : Nat), Ents (lay (p.map Tr.n) pl k fo) R
  | _, _, _, .nil, _, _ => .nil
  | p, _, _, .cons (t := t) a b, pl, k => by
    rw [lay]
    refine .cons ⟨p, t, rfl, rfl, rfl, rfl, rfl⟩ (Ents.app ?_ (b.ents pl (k + 1)))
    have := a.ents (pl ++ [.int (k : Nat)]) 0
    rw [List.map_append] at this
    exact this
def lname (l : Line) : Str := (l.getLast?.map Tr.n).getD ""
def lrank (l : Line) : Int := (l.getLast?.map Tr.r).getD 0
def freeL (l : Line) : Bool := l.all fun t => decide (t.w = "free")
theorem lname_app (q : Line) (t : Tr) : lname (q ++ [t]) = t.n := by simp [lname]
theorem lrank_app (q : Line) (t : Tr) : lrank (q ++ [t]) = t.r := by simp [lrank]
theorem freeL_app (q : Line) (t : Tr) : freeL (q ++ [t]) = (freeL q && decide (t.w = "free")) := by simp [freeL]
theorem Ents.names : ∀ {es : List Ent} {ls : List Line}, Ents es ls → es.map Ent.n = ls.map lname
  | _, _, .nil => rfl
  | _, _, .cons ⟨q, t, h, hn, _⟩ r => by rw [List.map_cons, List.map_cons, r.names, h, lname_app, hn]
/-- every row's line above is a row before it -/
def Par (D : List Line) : Prop := ∀ l ∈ D, ∀ q t, l = q ++ [t] → q = [] ∨ q ∈ D
def AboveIn (D : List Line) (l : Line) : Prop := ∀ q t, l = q ++ [t] → q = [] ∨ q ∈ D
inductive Closed : List Line → List Line → Prop
  | nil {D : List Line} : Closed D []
  | cons {D ls : List Line} {l : Line} : AboveIn D l → Closed (D ++ [l]) ls → Closed D (l :: ls)
theorem above_of {D : List Line} {q : Line} {t : Tr} (h : q = [] ∨ q ∈ D) : AboveIn D (q ++ [t]) := fun q' t' e => by
  have := (List.append_inj' e rfl).1
  rw [← this]; exact h
theorem Closed.app : ∀ {D ls ms : List Line}, Closed D ls → Closed (D ++ ls) ms → Closed D (ls ++ ms)
  | _, _, _, .nil, b => by rw [List.append_nil] at b; exact b
  | _, _, _, .cons h t, b => .cons h (t.app (by rw [List.append_assoc]; exact b))
theorem Closed.mono : ∀ {D D' ls : List Line}, Closed D ls → (∀ l ∈ D, l ∈ D') → Closed D' ls
  | _, _, _, .nil, _ => .nil
  | _, _, _, .cons h t, s => .cons (fun q u e => (h q u e).imp id (s _)) (t.mono fun l hl => (List.mem_append.mp hl).elim (fun z => List.mem_append_left _ (s l z)) fun z => List.mem_append_right _ z)
theorem RepF.closed : ∀ {p : Line} {fo : Fo} {R : List Line}, RepF p fo R → ∀ D : List Line, (p = [] ∨ p ∈ D) → Closed D R
  | _, _, _, .nil, _, _ => .nil
  | p, _, _, .cons (t := t) (R1 := R1) a b, D, h => by
    refine .cons (above_of h) ((a.closed _ (.inr (by simp))).app ?_)
    exact b.closed _ (h.imp id fun z => by simp [z])
/-- of done rows: what is above is done -/
theorem Par.pre {D : List Line} (h : Par D) : ∀ (n : Nat) (q2 : Line), q2.length = n → ∀ (q1 : Line) (u : Tr), q1 ++ [u] ++ q2 ∈ D → q1 ++ [u] ∈ D
  | 0, q2, hn, q1, u, hq => by rw [List.length_eq_zero_iff.mp hn, List.append_nil] at hq; exact hq
  | n + 1, q2, hn, q1, u, hq => by
    rcases List.eq_nil_or_concat q2 with rfl | ⟨q3, t, rfl⟩
    · cases hn
    · refine Par.pre h n q3 (by simpa using hn) q1 u ?_
      rcases h _ hq (q1 ++ [u] ++ q3) t (by simp) with z | z
      · simp at z
      · exact z
theorem lname_of {l : Line} {u : Tr} {q1 q2 : Line} (h : l = q1 ++ [u] ++ q2) (e : q2 = []) : lname l = u.n := by subst e; rw [h, List.append_nil, lname_app]
theorem nodup_inj {D : List Line} (nd : (D.map lname).Nodup) {a b : Line} (ha : a ∈ D) (hb : b ∈ D) (h : lname a = lname b) : a = b := by
  induction D with
  | nil => cases ha
  | cons d D ih =>
    rw [List.map_cons, List.nodup_cons] at nd
    rcases List.mem_cons.mp ha with ea | ha <;> rcases List.mem_cons.mp hb with eb | hb
    · rw [ea, eb]
    · exact absurd (List.mem_map.mpr ⟨b, hb, by rw [← h, ea]⟩) nd.1
    · exact absurd (List.mem_map.mpr ⟨a, ha, by rw [h, eb]⟩) nd.1
    · exact ih nd.2 ha hb
/-- a done row is free when no name above it is shut -/
theorem above_free {D : List Line} (par : Par D) (nd : (D.map lname).Nodup) {q : Line} (hq : q = [] ∨ q ∈ D) :
    ((q.map Tr.n).any fun x => decide (x ∈ (D.filter fun l => !freeL l).map lname)) = !freeL q := by
  rcases hq with rfl | hq
  · rfl
  · cases hf : freeL q with
    | false =>
      rcases List.eq_nil_or_concat q with rfl | ⟨q1, u, rfl⟩
      · cases hf
      · rw [List.concat_eq_append] at hq hf ⊢
        refine List.any_eq_true.mpr ⟨u.n, by simp, decide_eq_true (List.mem_map.mpr ⟨q1 ++ [u], List.mem_filter.mpr ⟨hq, by rw [hf]; rfl⟩, lname_app _ _⟩)⟩
    | true =>
      refine Bool.eq_false_iff.mpr fun z => ?_
      obtain ⟨x, hx, hs⟩ := List.any_eq_true.mp z
      obtain ⟨u, hu, rfl⟩ := List.mem_map.mp hx
      obtain ⟨l', hl', hn⟩ := List.mem_map.mp (of_decide_eq_true hs)
      obtain ⟨hl', hnf⟩ := List.mem_filter.mp hl'
      obtain ⟨q1, q2, rfl⟩ := List.append_of_mem hu
      have hp : q1 ++ [u] ∈ D := par.pre _ q2 rfl q1 u (by simpa using hq)
      have := nodup_inj nd hl' hp (by rw [hn, lname_app])
      subst this
      have : freeL (q1 ++ [u]) = true := by
        unfold freeL at hf ⊢
        rw [List.all_eq_true] at hf ⊢
        intro t ht
        exact hf t (by
          rcases List.mem_append.mp ht with h | h
          · simp [h]
          · simp [List.mem_singleton.mp h])
      rw [this] at hnf
      cases hnf
theorem Par.snoc {D : List Line} (h : Par D) {l : Line} (a : AboveIn D l) : Par (D ++ [l]) := by
  intro m hm q t e
  rcases List.mem_append.mp hm with hm | hm
  · exact (h m hm q t e).imp id (List.mem_append_left _)
  · rw [List.mem_singleton.mp hm] at e
    exact (a q t e).imp id (List.mem_append_left _)
theorem sees_rows : ∀ {es : List Ent} {ls D : List Line}, Ents es ls → Closed D ls → Par D → ((D ++ ls).map lname).Nodup →
    sees true es ((D.filter freeL).map lname) ((D.filter fun l => !freeL l).map lname) = (((D ++ ls).filter freeL).map lname, ((D ++ ls).filter fun l => !freeL l).map lname)
  | _, _, D, .nil, _, _, _ => by simp [sees]
  | _, _, D, .cons (e := e) (l := l) (es := es) (ls := ls) el r, cl, par, nd => by
    obtain ⟨q, t, h1, h2, h3, h4, h5⟩ := el
    cases cl with
    | cons ab cl =>
      have hq := ab q t h1
      have ndD : (D.map lname).Nodup := by
        rw [List.map_append] at nd
        exact (List.nodup_append.mp nd).1
      have ih := sees_rows r cl (par.snoc ab) (by simpa using nd)
      have cond : (decide (e.w ≠ "free") && (true || decide (e.w = "hidden")) || e.anc.any fun x => decide (x ∈ (D.filter fun l => !freeL l).map lname)) = !freeL l := by
        rw [h5, above_free par ndD hq, h1, freeL_app, h3]
        cases freeL q <;> by_cases hw : t.w = "free" <;> simp [hw]
      have en : e.n = lname l := by rw [h1, lname_app, h2]
      unfold sees
      rw [cond]
      cases hf : freeL l with
      | true =>
        rw [if_neg (by simp)]
        have e1 : (D.filter freeL).map lname ++ [e.n] = ((D ++ [l]).filter freeL).map lname := by simp [hf, en]
        have e2 : (D.filter fun l => !freeL l).map lname = ((D ++ [l]).filter fun l => !freeL l).map lname := by simp [hf]
        rw [e1, e2, ih, List.append_assoc]; rfl
      | false =>
        rw [if_pos (by simp)]
        have e1 : (D.filter freeL).map lname = ((D ++ [l]).filter freeL).map lname := by simp [hf]
        have e2 : (D.filter fun l => !freeL l).map lname ++ [e.n] = ((D ++ [l]).filter fun l => !freeL l).map lname := by simp [hf, en]
        rw [e1, e2, ih, List.append_assoc]; rfl
/-- the open parts, by rows -/
theorem opens_rows {fo : Fo} {R : List Line} (r : RepF [] fo R) (nd : (R.map lname).Nodup) : opens fo = (R.filter freeL).map lname := by
  have h := sees_rows (D := []) (r.ents [] 0) (r.closed [] (.inl rfl)) (fun l hl => nomatch hl) nd
  exact congrArg Prod.fst h
theorem ents_nodup {fo : Fo} {R : List Line} (r : RepF [] fo R) (nd : (R.map lname).Nodup) : ((ents fo).map Ent.n).Nodup := by
  have e := (r.ents [] 0).names
  show ((lay [] [] 0 fo).map Ent.n).Nodup
  have e : (lay [] [] 0 fo).map Ent.n = R.map lname := e
  rw [e]; exact nd
theorem Ents.at {x : Str} : ∀ {es : List Ent} {ls : List Line}, Ents es ls → ∀ l ∈ ls, (ls.map lname).Nodup → ∃ e, at_ es (lname l) = some e ∧ EntLine e l
  | _, _, .nil, l, hl, _ => nomatch hl
  | _, _, .cons (e := e) (l := m) (es := es) (ls := ls) h r, l, hl, nd => by
    rw [List.map_cons, List.nodup_cons] at nd
    have hn : e.n = lname m := by obtain ⟨q, t, h1, h2, _⟩ := h; rw [h1, lname_app, h2]
    unfold at_
    rw [List.find?_cons]
    rcases List.mem_cons.mp hl with rfl | hl
    · rw [decide_eq_true hn]; exact ⟨e, rfl, h⟩
    · have : e.n ≠ lname l := fun z => nd.1 (by rw [← hn, z]; exact List.mem_map.mpr ⟨l, hl, rfl⟩)
      rw [decide_eq_false this]
      exact r.at (x := x) l hl nd.2

theorem Closed.par : ∀ {D ls : List Line}, Closed D ls → Par D → Par (D ++ ls)
  | _, _, .nil, h => by rw [List.append_nil]; exact h
  | D, _, .cons (l := l) (ls := ls) a b, h => by
    have := b.par (h.snoc a)
    rw [List.append_assoc] at this
    exact this
section
variable {fo : Fo} {R : List Line} (r : RepF [] fo R) (nd : (R.map lname).Nodup)
include r nd
theorem row_at {l : Line} (hl : l ∈ R) : ∃ e, at_ (ents fo) (lname l) = some e ∧ EntLine e l := Ents.at (x := "") (r.ents [] 0) l hl nd
theorem row_rank {l : Line} (hl : l ∈ R) : rkOf (ents fo) (lname l) = lrank l := by
  obtain ⟨e, h, q, t, h1, h2, h3, h4, h5⟩ := row_at r nd hl
  unfold rkOf
  rw [h, h1, lrank_app]
  exact h4
theorem row_free {l : Line} (hl : l ∈ R) (hf : freeL l = true) : ∀ y ∈ l.map Tr.n, wdOf (ents fo) y = "free" := by
  intro y hy
  obtain ⟨u, hu, rfl⟩ := List.mem_map.mp hy
  have hw : u.w = "free" := by
    unfold freeL at hf
    exact of_decide_eq_true (List.all_eq_true.mp hf u hu)
  obtain ⟨q1, q2, rfl⟩ := List.append_of_mem hu
  have par : Par R := by
    have := (r.closed [] (.inl rfl)).par (fun l hl => nomatch hl)
    simpa using this
  have hp : q1 ++ [u] ∈ R := par.pre _ q2 rfl q1 u (by simpa using hl)
  obtain ⟨e, h, q, t, h1, h2, h3, h4, h5⟩ := row_at r nd hp
  have e1 := (List.append_inj' h1 rfl).2
  rw [lname_app] at h
  unfold wdOf
  rw [h]
  show e.w = _
  rw [h3]
  have : u = t := by simpa using e1
  rw [← this]; exact hw
theorem row_why {l : Line} (hl : l ∈ R) (hf : freeL l = true) : ∃ e, at_ (ents fo) (lname l) = some e ∧ whyV (ents fo) e = .non := by
  obtain ⟨e, h, q, t, h1, h2, h3, h4, h5⟩ := row_at r nd hl
  refine ⟨e, h, ?_⟩
  have names : e.anc ++ [e.n] = l.map Tr.n := by rw [h5, h2, h1]; simp
  have fw : ∀ w : Str, "free" ≠ w → firstW (ents fo) w (e.anc ++ [e.n]) = none := by
    intro w hw
    unfold firstW
    rw [List.find?_eq_none]
    intro x hx
    rw [names] at hx
    rw [row_free r nd hl hf x hx]
    simpa using hw
  unfold whyV
  rw [fw "hidden" (by decide +kernel), fw "shut" (by decide +kernel)]
def orderL (ks : List Int) (R : List Line) : List Str := ks.flatMap fun k => ((R.filter freeL).filter fun l => decide (lrank l = k)).map lname
theorem walk_rows (ks : List Int) (u : Upw ks) (ndk : ks.Nodup) (h : ∀ l ∈ R, lrank l ∈ ks) : walkF fo = orderL ks R := by
  rw [walk_byRank fo ks u ndk]
  · unfold orderL
    refine flatMap_eq fun k _ => ?_
    rw [opens_rows r nd, List.filter_map]
    congr 1
    refine List.filter_congr fun l hl => ?_
    show decide (rkOf (ents fo) (lname l) = k) = _
    rw [row_rank r nd (List.mem_filter.mp hl).1]
  · intro x hx
    rw [opens_rows r nd] at hx
    obtain ⟨l, hl, rfl⟩ := List.mem_map.mp hx
    rw [row_rank r nd (List.mem_filter.mp hl).1]
    exact h l (List.mem_filter.mp hl).1
omit r nd in
theorem order_mem {ks : List Int} {R : List Line} {x : Str} (h : x ∈ orderL ks R) : ∃ l ∈ R, freeL l = true ∧ x = lname l := by
  obtain ⟨k, _, h⟩ := List.mem_flatMap.mp h
  obtain ⟨l, hl, rfl⟩ := List.mem_map.mp h
  obtain ⟨hl, _⟩ := List.mem_filter.mp hl
  obtain ⟨hl, hf⟩ := List.mem_filter.mp hl
  exact ⟨l, hl, hf, rfl⟩
end
/-! ### hanging rows -/
/-- the line behind a line -/
def Nx (p l : Line) : Prop := ∃ m t, m ≤ p.length ∧ l = p.take m ++ [t]
def Suf : List Line → Prop
  | [] => True
  | [l] => l ≠ []
  | p :: l :: r => p ≠ [] ∧ Nx p l ∧ Suf (l :: r)
theorem Suf.snoc : ∀ {A : List Line} {p l : Line}, Suf (A ++ [p]) → Nx p l → Suf (A ++ [p, l])
  | [], p, l, h, n => ⟨h, n, by obtain ⟨m, t, _, rfl⟩ := n; exact fun z => by simp at z⟩
  | [a], p, l, h, n => ⟨h.1, h.2.1, Suf.snoc (A := []) h.2.2 n⟩
  | a :: b :: A, p, l, h, n => ⟨h.1, h.2.1, Suf.snoc (A := b :: A) h.2.2 n⟩
theorem Suf.tail : ∀ {l : Line} {r : List Line}, Suf (l :: r) → Suf r
  | _, [], _ => trivial
  | _, _ :: _, h => h.2.2
theorem Suf.drop : ∀ {A B : List Line}, Suf (A ++ B) → Suf B
  | [], _, h => h
  | a :: A, B, h => Suf.drop (A := A) (h.tail)
theorem Suf.hd : ∀ {l : Line} {r : List Line}, Suf (l :: r) → l ≠ []
  | _, [], h => h
  | _, _ :: _, h => h.1
def catR (Rs : Nat → List Line) : Nat → List Line
  | 0 => []
  | n + 1 => Rs n ++ catR Rs n
theorem catR_pad {Rs : Nat → List Line} {a : Nat} : ∀ (n : Nat), (∀ d, a ≤ d → Rs d = []) → catR Rs (a + n) = catR Rs a
  | 0, _ => rfl
  | n + 1, h => by rw [← Nat.add_assoc, catR, h (a + n) (by omega), List.nil_append, catR_pad n h]
theorem catR_same {Rs Rt : Nat → List Line} : ∀ (n : Nat), (∀ d, d < n → Rs d = Rt d) → catR Rs n = catR Rt n
  | 0, _ => rfl
  | n + 1, h => by rw [catR, catR, h n (by omega), catR_same n fun d hd => h d (by omega)]
/-- what waits at each depth when the rows R2 are hung -/
def HInv (R2 : List Line) (F : Nat → Fo) : Prop := ∃ (L : Line) (Rs : Nat → List Line), (R2 = [] ∧ L = [] ∨ ∃ r, R2 = L :: r) ∧ (∀ d, L.length ≤ d → F d = .nil ∧ Rs d = []) ∧ (∀ d, RepF (L.take d) (F d) (Rs d)) ∧ R2 = catR Rs L.length
def hangF (F : Nat → Fo) (d0 : Nat) (t : Tr) (b h : Val) : Nat → Fo := fun d => if d = d0 then .cons t.n b t.w t.r h (F (d0 + 1)) (F d0) else if d = d0 + 1 then .nil else F d
def hangR (Rs : Nat → List Line) (n : Nat) (l : Line) : Nat → List Line := fun d => if d = n then l :: (Rs (n + 1) ++ Rs n) else if d = n + 1 then [] else Rs d
theorem HInv.nil : HInv [] fun _ => .nil := ⟨[], fun _ => [], .inl ⟨rfl, rfl⟩, fun _ _ => ⟨rfl, rfl⟩, fun _ => .nil, rfl⟩
theorem HInv.step {R2 : List Line} {F : Nat → Fo} {q : Line} {t : Tr} {b h : Val} (i : HInv R2 F) (s : Suf ((q ++ [t]) :: R2)) : HInv ((q ++ [t]) :: R2) (hangF F q.length t b h) := by
  obtain ⟨L, Rs, hL, h1, h2, h3⟩ := i
  -- how the old rows' line lies to the new
  have key : L.length ≤ q.length + 2 ∧ ∀ d, d < L.length → L.take d = (q ++ [t]).take d := by
    rcases hL with ⟨_, rfl⟩ | ⟨r, rfl⟩
    · exact ⟨by simp, fun d hd => by simp at hd⟩
    · obtain ⟨_, ⟨m, u, hm, rfl⟩, _⟩ := s
      simp at hm
      refine ⟨by simp; omega, fun d hd => ?_⟩
      simp at hd
      have hd' : d ≤ m := by omega
      rw [List.take_append_of_le_length (by simp; omega), List.take_take, Nat.min_eq_left hd']
  obtain ⟨k1, k2⟩ := key
  have rep : ∀ d, d ≤ q.length + 1 → RepF ((q ++ [t]).take d) (F d) (Rs d) := by
    intro d hd
    by_cases hlt : d < L.length
    · rw [← k2 d hlt]; exact h2 d
    · obtain ⟨e1, e2⟩ := h1 d (by omega)
      rw [e1, e2]; exact .nil
  refine ⟨q ++ [t], hangR Rs q.length (q ++ [t]), .inr ⟨R2, rfl⟩, ?_, ?_, ?_⟩
  · intro d hd
    simp at hd
    unfold hangF hangR
    rw [if_neg (show ¬ d = q.length by omega), if_neg (show ¬ d = q.length by omega)]
    by_cases e : d = q.length + 1
    · rw [if_pos e, if_pos e]; exact ⟨rfl, rfl⟩
    · rw [if_neg e, if_neg e]; exact h1 d (by omega)
  · intro d
    unfold hangF hangR
    by_cases e : d = q.length
    · subst e
      rw [if_pos rfl, if_pos rfl]
      have e1 : (q ++ [t]).take q.length = q := by simp
      rw [e1]
      refine .cons ?_ ?_
      · have := rep (q.length + 1) (Nat.le_refl _)
        rwa [List.take_of_length_le (by simp)] at this
      · have := rep q.length (by omega)
        rwa [e1] at this
    · rw [if_neg e, if_neg e]
      by_cases e2 : d = q.length + 1
      · rw [if_pos e2, if_pos e2]; exact .nil
      · rw [if_neg e2, if_neg e2]
        by_cases hd : d < q.length
        · exact rep d (by omega)
        · obtain ⟨e3, e4⟩ := h1 d (by omega)
          rw [e3, e4]; exact .nil
  · rw [List.length_append, List.length_singleton]
    show _ = hangR Rs q.length (q ++ [t]) q.length ++ catR _ q.length
    have e1 : catR (hangR Rs q.length (q ++ [t])) q.length = catR Rs q.length :=
      catR_same _ fun d hd => by unfold hangR; rw [if_neg (by omega), if_neg (by omega)]
    have e2 : catR Rs (q.length + 2) = catR Rs L.length := by
      rw [show q.length + 2 = L.length + (q.length + 2 - L.length) by omega]
      exact catR_pad _ fun d hd => (h1 d hd).2
    have e0 : hangR Rs q.length (q ++ [t]) q.length = (q ++ [t]) :: (Rs (q.length + 1) ++ Rs q.length) := by unfold hangR; rw [if_pos rfl]
    rw [e1, e0, h3, ← e2]
    simp [catR]
theorem HInv.fin {R : List Line} {F : Nat → Fo} (i : HInv R F) (h : ∀ l r, R = l :: r → l.length = 1) : RepF [] (F 0) R := by
  obtain ⟨L, Rs, hL, h1, h2, h3⟩ := i
  rcases hL with ⟨rfl, rfl⟩ | ⟨r, rfl⟩
  · rw [(h1 0 (by simp)).1]; exact .nil
  · have e := h L r rfl
    rw [e] at h3
    have := h2 0
    simp [catR] at h3
    rw [← h3] at this
    simpa using this

theorem RepF.vs_len : ∀ {p : Line} {fo : Fo} {R : List Line}, RepF p fo R → fo.vs.length ≤ R.length
  | _, _, _, .nil => Nat.le_refl _
  | _, _, _, .cons a b => by
    have := b.vs_len
    rw [Fo.vs, List.length_cons, List.length_cons, List.length_append]; omega
theorem RepF.size : ∀ {p : Line} {fo : Fo} {R : List Line}, RepF p fo R → fo.size = R.length
  | _, _, _, .nil => rfl
  | _, _, _, .cons a b => by
    rw [Fo.size, a.size, b.size, List.length_cons, List.length_append]; omega
theorem RepF.deep : ∀ {p : Line} {fo : Fo} {R : List Line} {m : Nat}, RepF p fo R → (∀ l ∈ R, l.length ≤ m) → fo.deep ≤ m - p.length
  | _, _, _, _, .nil, _ => Nat.zero_le _
  | p, _, _, m, .cons (t := t) a b, h => by
    have h1 := a.deep (m := m) fun l hl => h l (by simp [hl])
    have h2 := b.deep (m := m) fun l hl => h l (by simp [hl])
    have h3 := h (p ++ [t]) (by simp)
    simp at h1 h3
    unfold Fo.deep
    omega
theorem catR_mem {Rs : Nat → List Line} : ∀ {n d : Nat}, d < n → (Rs d).length ≤ (catR Rs n).length
  | 0, _, h => by omega
  | n + 1, d, h => by
    rw [catR, List.length_append]
    by_cases e : d = n
    · rw [e]; omega
    · have := catR_mem (Rs := Rs) (n := n) (d := d) (by omega)
      omega
theorem HInv.len {R : List Line} {F : Nat → Fo} (i : HInv R F) (d : Nat) : (F d).vs.length ≤ R.length := by
  obtain ⟨L, Rs, hL, h1, h2, h3⟩ := i
  refine Nat.le_trans (h2 d).vs_len ?_
  by_cases hd : d < L.length
  · have := catR_mem (Rs := Rs) hd
    rw [h3]; exact this
  · rw [(h1 d (by omega)).2]; exact Nat.zero_le _
end FW

set_option Elab.async false
set_option linter.all false
set_option maxRecDepth 100000
/-! Boxes, what is near, ways. -/
namespace FW
open PySem PySem.Spec PyProof.Rows L2
theorem ixN_nat {n j : Nat} (h : j < n) : ixN n (j : Int) = some j := by
  unfold ixN
  rw [if_pos (by omega), if_pos (by omega)]
  simp
theorem lt_tup {ns ms : List Int} {S : Sto} {P : Bool → Prop} (q : P (HT.lexLt ns ms)) : semCmp .lt (.tup (ns.map .int)) (.tup (ms.map .int)) S P := ⟨ns, ms, rfl, rfl, q⟩
structure Bx where
  x : Int
  y : Int
  w : Int
  h : Int
def Bx.v (q : Bx) : Val := .tup [.int q.x, .int q.y, .int q.w, .int q.h]
def bxOf : Val → Bx
  | .tup [.int x, .int y, .int w, .int h] => ⟨x, y, w, h⟩
  | _ => ⟨0, 0, 0, 0⟩
def BoxOk (v : Val) : Prop := v = (bxOf v).v
theorem boxOk_v (q : Bx) : BoxOk q.v := rfl
def hcB (a b c d : Int) : Bool := decide (a < d) && decide (c < b)
def farI (a b c d : Int) : Int := if hcB a b c d then 0 else if a - d > c - b then a - d else c - b
def nearO (g a b c d : Int) : Option (List Int) := if g < 0 then none else some [if hcB a b c d then 0 else 1, g, farI a b c d]
def nearsL (p q : Bx) : List (Option (List Int)) :=
  [nearO (p.y - (q.y + q.h)) p.x (p.x + p.w) q.x (q.x + q.w), nearO (q.y - (p.y + p.h)) p.x (p.x + p.w) q.x (q.x + q.w),
   nearO (p.x - (q.x + q.w)) p.y (p.y + p.h) q.y (q.y + q.h), nearO (q.x - (p.x + p.w)) p.y (p.y + p.h) q.y (q.y + q.h)]
def valO : Option (List Int) → Val
  | none => .non
  | some l => .tup (l.map .int)
def better : Option (List Int) → Option (List Int) → Bool
  | none, _ => false
  | some _, none => true
  | some l, some m => HT.lexLt l m
abbrev BF := Option (List Int) × Option Str
def updL (n : Str) (ns : List (Option (List Int))) (bf : List BF) : List BF := List.zipWith (fun near p => if better near p.1 then (near, some n) else p) ns bf
theorem updL_len {n : Str} {ns : List (Option (List Int))} {bf : List BF} (h : ns.length = bf.length) : (updL n ns bf).length = bf.length := by unfold updL; rw [List.length_zipWith, h, Nat.min_self]
def fourL (q : Bx) (ps : List Ent) (bf : List BF) : List BF := ps.foldl (fun bf e => updL e.n (nearsL q (bxOf e.b)) bf) bf
def bf0 : List BF := [(none, none), (none, none), (none, none), (none, none)]
def fourV (q : Bx) (ps : List Ent) : List Val := (fourL q ps bf0).map fun p => optV p.2
theorem fourL_len (q : Bx) : ∀ (ps : List Ent) (bf : List BF), bf.length = 4 → (fourL q ps bf).length = 4
  | [], bf, h => h
  | e :: ps, bf, h => fourL_len q ps _ (by rw [updL_len (by rw [h]; rfl), h])
theorem fourV_len (q : Bx) (ps : List Ent) : (fourV q ps).length = 4 := by unfold fourV; rw [List.length_map]; exact fourL_len q ps _ rfl
/-- the same place but for the last -/
def samePl (a b : List Val) : Bool := PyData.eqv (Val.pd (.tup (cut a none (some (-1))))) (Val.pd (.tup b))
def matesF (es : List Ent) (pl : List Val) : List Ent := es.filter fun e => samePl e.pl (cut pl none (some (-1)))
def innerF (es : List Ent) (pl : List Val) : Option Str := (es.find? fun e => samePl e.pl pl).map Ent.n
def openE (fo : Fo) : List Ent := (ents fo).filter fun e => decide (e.n ∈ opens fo)
def lastAnc (e : Ent) : Val := optV e.anc.getLast?
/-- the walk's neighbours -/
def onV (ws : List Str) (j : Nat) : Val := optV ws[(j + 1) % ws.length]?
def backV (ws : List Str) (j : Nat) : Val := optV ws[(j + (ws.length - 1)) % ws.length]?
def tabV (fo : Fo) (e : Ent) : List Val := [onV (walkF fo) ((walkF fo).idxOf e.n), backV (walkF fo) ((walkF fo).idxOf e.n)] ++ fourV (bxOf e.b) (matesF (openE fo) e.pl) ++ [optV (innerF (openE fo) e.pl), lastAnc e]
/-- places are rows of numbers -/
def PlOk (pl : List Val) : Prop := ∃ ks : List Int, pl = ks.map .int
theorem lay_pl : ∀ (fo : Fo) (anc : List Str) (pl : List Val) (k : Nat), PlOk pl → ∀ e ∈ lay anc pl k fo, PlOk e.pl
  | .nil, _, _, _, _, e, h => by simp [lay] at h
  | .cons n b w r hh cs ts, anc, pl, k, ⟨ks, hk⟩, e, h => by
    have hp : PlOk (pl ++ [.int (k : Nat)]) := ⟨ks ++ [(k : Int)], by rw [hk]; simp⟩
    simp only [lay, List.mem_cons, List.mem_append] at h
    rcases h with rfl | h | h
    · exact hp
    · exact lay_pl cs _ _ _ hp e h
    · exact lay_pl ts _ _ _ ⟨ks, hk⟩ e h
theorem ents_pl {fo : Fo} {e : Ent} (h : e ∈ ents fo) : PlOk e.pl := lay_pl fo [] [] 0 ⟨[], rfl⟩ e h
theorem PlOk.cut {pl : List Val} (h : PlOk pl) (lo hi : Option Int) : PlOk (cut pl lo hi) := by
  obtain ⟨ks, rfl⟩ := h
  exact ⟨FW.cut ks lo hi, by unfold FW.cut; simp⟩
theorem ints_purs : ∀ ks : List Int, Val.purs (ks.map .int) = true
  | [] => rfl
  | k :: ks => by rw [List.map_cons, Val.purs, ints_purs ks]; rfl
theorem ints_lay : ∀ ks : List Int, PyData.canLayAll0 (Val.pds (ks.map .int)) = true ∧ PyData.depthAll (Val.pds (ks.map .int)) = 0
  | [] => ⟨rfl, rfl⟩
  | k :: ks => by
    obtain ⟨h1, h2⟩ := ints_lay ks
    rw [List.map_cons, Val.pds]
    exact ⟨by simp [PyData.canLayAll0, Val.pd, PyData.canLay0, h1], by simp [PyData.depthAll, Val.pd, PyData.depth, h2]⟩
theorem ints_shaped (ks : List Int) : SeqAt.shaped (Val.pd (.tup (ks.map .int))) = true := by
  obtain ⟨h1, h2⟩ := ints_lay ks
  unfold SeqAt.shaped
  rw [Val.pd]
  simp [PyData.canLay0, PyData.depth, h1, h2]
theorem eq_pl {a b : List Val} {S : Sto} {P : Bool → Prop} (ha : PlOk a) (hb : PlOk b) (q : P (PyData.eqv (Val.pd (.tup a)) (Val.pd (.tup b)))) : semEq (.tup a) (.tup b) S P := by
  obtain ⟨ks, rfl⟩ := ha
  obtain ⟨ls, rfl⟩ := hb
  exact eq_data (ints_purs ks) (by unfold Val.pur; exact ints_purs ls) (ints_shaped ks) (ints_shaped ls) q
def pairV (e : Ent) : Val := .tup [.tup e.pl, e.pv]
end FW

set_option Elab.async false
set_option linter.all false
set_option maxRecDepth 100000
/-! Rows (deep, name, box, word, rank), and what hangs of them. -/
namespace FW
open PySem PySem.Spec PyProof.Rows L2
structure Rw where
  d : Nat
  t : Tr
  b : Bx
def Rw.v (r : Rw) : Val := .tup [.int (r.d : Nat), .str r.t.n, r.b.v, .str r.t.w, .int r.t.r]
def linesOf : Line → List Rw → List Line
  | _, [] => []
  | cur, r :: rs => (cur.take r.d ++ [r.t]) :: linesOf (cur.take r.d ++ [r.t]) rs
def WfR : Nat → List Rw → Prop
  | _, [] => True
  | k, r :: rs => r.d ≤ k ∧ WfR (r.d + 1) rs
theorem lines_len : ∀ {cur : Line} {rs : List Rw}, (linesOf cur rs).length = rs.length
  | _, [] => rfl
  | cur, r :: rs => by rw [linesOf, List.length_cons, lines_len, List.length_cons]
theorem lines_names : ∀ {cur : Line} {rs : List Rw}, (linesOf cur rs).map lname = rs.map fun r => r.t.n
  | _, [] => rfl
  | cur, r :: rs => by rw [linesOf, List.map_cons, lines_names, lname_app, List.map_cons]
theorem takeLen {cur : Line} {d : Nat} {t : Tr} (h : d ≤ cur.length) : (cur.take d ++ [t]).length = d + 1 := by simp; omega
theorem lines_suf : ∀ {cur : Line} {rs : List Rw}, WfR cur.length rs → Suf (linesOf cur rs)
  | _, [], _ => trivial
  | cur, [r], h => by show _ ++ [_] ≠ []; simp
  | cur, r :: s :: rs, h => by
    have ih := lines_suf (cur := cur.take r.d ++ [r.t]) (rs := s :: rs) (by rw [takeLen h.1]; exact h.2)
    rw [linesOf] at ih ⊢
    rw [linesOf]
    exact ⟨by simp, ⟨s.d, s.t, by rw [takeLen h.1]; exact h.2.1, rfl⟩, ih⟩
theorem lines_lens {m : Nat} : ∀ {cur : Line} {rs : List Rw}, WfR cur.length rs → (∀ r ∈ rs, r.d + 1 ≤ m) → ∀ l ∈ linesOf cur rs, l.length ≤ m
  | _, [], _, _, l, hl => nomatch hl
  | cur, r :: rs, h, hm, l, hl => by
    rw [linesOf] at hl
    rcases List.mem_cons.mp hl with rfl | hl
    · rw [takeLen h.1]; exact hm r List.mem_cons_self
    · exact lines_lens (by rw [takeLen h.1]; exact h.2) (fun s hs => hm s (List.mem_cons_of_mem _ hs)) l hl
def hangs : List Rw → Nat → Fo
  | [] => fun _ => .nil
  | r :: rs => hangF (hangs rs) r.d r.t r.b.v .non
theorem hangs_inv : ∀ {cur : Line} {rs : List Rw}, WfR cur.length rs → HInv (linesOf cur rs) (hangs rs)
  | _, [], _ => HInv.nil
  | cur, r :: rs, h => by
    have e : (cur.take r.d).length = r.d := by rw [List.length_take]; exact Nat.min_eq_left h.1
    have ih := hangs_inv (cur := cur.take r.d ++ [r.t]) (rs := rs) (by rw [takeLen h.1]; exact h.2)
    have s := lines_suf h
    rw [linesOf] at s ⊢
    have := ih.step (b := r.b.v) (h := .non) s
    rw [e] at this
    exact this
abbrev sheetOf (rs : List Rw) : Fo := hangs rs 0
theorem sheet_rep {rs : List Rw} (h : WfR 0 rs) : RepF [] (sheetOf rs) (linesOf [] rs) := by
  refine (hangs_inv (cur := []) h).fin ?_
  intro l r e
  cases rs with
  | nil => cases e
  | cons a rs =>
    rw [linesOf] at e
    simp only [List.cons.injEq] at e
    rw [← e.1]
    simp
/-- all boxes are boxes, no heads -/
inductive FoB : Fo → Prop
  | nil : FoB .nil
  | cons {n w : Str} {r : Int} {q : Bx} {cs ts : Fo} : FoB cs → FoB ts → FoB (.cons n q.v w r .non cs ts)
theorem hangs_box : ∀ (rs : List Rw) (d : Nat), FoB (hangs rs d)
  | [], _ => .nil
  | r :: rs, d => by
    unfold hangs hangF
    split
    · exact .cons (hangs_box rs _) (hangs_box rs _)
    · split
      · exact .nil
      · exact hangs_box rs d
theorem FoB.box : ∀ {fo : Fo}, FoB fo → ∀ (anc : List Str) (pl : List Val) (k : Nat), ∀ e ∈ lay anc pl k fo, BoxOk e.b
  | _, .nil, _, _, _, e, h => by simp [lay] at h
  | _, .cons a b, anc, pl, k, e, h => by
    simp only [lay, List.mem_cons, List.mem_append] at h
    rcases h with rfl | h | h
    · exact boxOk_v _
    · exact a.box _ _ _ e h
    · exact b.box _ _ _ e h
end FW

set_option Elab.async false
set_option linter.all false
set_option maxRecDepth 100000
/-! Waiting lists: how rows are hung. -/
namespace FW
open PySem PySem.Spec PyProof.Rows L2
theorem putNew {S1 S : Sto} {p : Addr} {o : Ob} (x : Ext S1 S) (h : S1 p = none) : Ext S1 (S.put p o) := (ExtB.trans (.of x) .put).ext h
theorem nodup_set : ∀ {ws : List Addr} {i : Nat} {y : Addr}, ws.Nodup → y ∉ ws → (ws.set i y).Nodup
  | [], _, _, h, _ => h
  | w :: ws, 0, y, h, hy => by
    rw [List.nodup_cons] at h
    exact List.nodup_cons.mpr ⟨fun z => hy (List.mem_cons_of_mem _ z), h.2⟩
  | w :: ws, i + 1, y, h, hy => by
    rw [List.nodup_cons] at h
    refine List.nodup_cons.mpr ⟨fun z => ?_, nodup_set h.2 fun z => hy (List.mem_cons_of_mem _ z)⟩
    rcases List.mem_or_eq_of_mem_set z with z | z
    · exact h.1 z
    · exact hy (z ▸ List.mem_cons_self)
/-- m lists wait at wl, in reverse order -/
def Waits (S0 S : Sto) (wl : Addr) (m : Nat) (F : Nat → Fo) : Prop := Ext S0 S ∧ S0 wl = none ∧ ∃ ws : List Addr, S wl = some (.lst (ws.map .ref)) ∧ ws.length = m ∧ ws.Nodup ∧ (∀ w ∈ ws, S0 w = none ∧ w ≠ wl) ∧ ∀ d a, ws[d]? = some a → S a = some (.lst (F d).vs.reverse)
theorem waits_start {C : CallSem} {ρ : Env} {S : Sto} {P : VP} {X : XP} {i m : Nat} {mi : Int} (hm : mi = (m : Nat)) (h9 : m ≤ 1000) (h : ∀ S' wl, Waits S S' wl m (fun _ => .nil) → P (.ref wl) S') : ev C (.lc [i] [i] true (.rng1 (.con (.int mi))) .no (.lst .nil)) ρ S P X := by
  simp [ev_lc]
  refine ⟨⟨by omega, by omega⟩, ?_⟩
  refine lcLoop_from (fun r acc S1 => ∃ ws : List Addr, acc = ws.map Val.ref ∧ Ext S S1 ∧ ws.Nodup ∧ (∀ w ∈ ws, S w = none ∧ S1 w = some (.lst [])) ∧ ws.length + r.length = m) (fun _ _ _ _ => trivial) ?_ ?_ _ _ ?_ ⟨[], rfl, .refl, .nil, (fun w hw => nomatch hw), ?_⟩
  · rintro x r acc S1 K ⟨ws, rfl, h1, h2, h3, h4⟩ hK _
    simp [lcTurn, lcTg]
    refine allo_ok fun y S2 hy y2 hy2 => hK _ S2 ⟨ws ++ [y], by simp, h1.trans y2, ?_, ?_, by simp at h4 ⊢; omega⟩
    · refine List.nodup_append.mpr ⟨h2, by simp, fun a ha b hb => ?_⟩
      rw [List.mem_singleton.mp hb]
      exact fun z => by rw [z] at ha; rw [(h3 _ ha).2] at hy; cases hy
    · intro w hw
      rcases List.mem_append.mp hw with hw | hw
      · exact ⟨(h3 w hw).1, y2 _ _ (h3 w hw).2⟩
      · rw [List.mem_singleton.mp hw]; exact ⟨h1.none hy, hy2⟩
  · rintro acc S1 ⟨ws, rfl, h1, h2, h3, h4⟩
    refine allo_ok fun wl S2 hwl y2 hwl2 => h S2 wl ⟨h1.trans y2, h1.none hwl, ws, hwl2, by simpa using h4, h2, fun w hw => ⟨(h3 w hw).1, fun z => ?_⟩, fun d a hd => y2 _ _ (h3 a (List.mem_of_getElem? hd)).2⟩
    rw [z] at hw; rw [(h3 _ hw).2] at hwl; cases hwl
  · simp [rngL, hm]; omega
  · simp [rngL, hm]
section
variable {S0 S : Sto} {wl : Addr} {m d : Nat} {F : Nat → Fo} {k : Int}
theorem Waits.grow {S' : Sto} (w : Waits S0 S wl m F) (x : Ext S S') : Waits S0 S' wl m F := by
  obtain ⟨h1, h2, ws, h3, h4, h5, h6, h7⟩ := w
  exact ⟨h1.trans x, h2, ws, x _ _ h3, h4, h5, h6, fun d a hd => x _ _ (h7 d a hd)⟩
/-- tuple(waiting[k][::-1]) -/
theorem Waits.take {Q : VP} (w : Waits S0 S wl m F) (hk : k = (d : Nat)) (hd : d < m) (q : ∀ S', Ext S S' → Waits S0 S' wl m F → Q (.tup (F d).vs) S') : semIx (.ref wl) (.int k) S fun v S1 => semRev v S1 fun v S2 => semBi .tuple_ [v] S2 Q := by
  subst hk
  have w0 := w
  obtain ⟨h1, h2, ws, h3, h4, h5, h6, h7⟩ := w
  refine ix_lst (x := .ref (ws[d]'(by omega))) h3 (by rw [atI_natE, List.getElem?_map, List.getElem?_eq_getElem (by omega)]; rfl) ?_
  refine rev_lst (h7 d _ (List.getElem?_eq_getElem (by omega))) (allo_ok fun z S4 hz y4 hz4 => bi_tuple_lst hz4 ?_)
  rw [List.reverse_reverse]
  exact q S4 y4 (w0.grow y4)
def wipeF (F : Nat → Fo) (d : Nat) : Nat → Fo := fun e => if e = d then .nil else F e
def pushF (F : Nat → Fo) (d : Nat) (n : Str) (b : Val) (w : Str) (r : Int) (h : Val) (cs : Fo) : Nat → Fo := fun e => if e = d then .cons n b w r h cs (F d) else F e
/-- waiting[k] = [] -/
theorem Waits.wipe {Q : Sto → Prop} (w : Waits S0 S wl m F) (hk : k = (d : Nat)) (hd : d < m) (q : ∀ S', Waits S0 S' wl m (wipeF F d) → Q S') : allo S (.lst []) fun v S1 => semSet (.ref wl) (.int k) v S1 Q := by
  subst hk
  obtain ⟨h1, h2, ws, h3, h4, h5, h6, h7⟩ := w
  refine allo_ok fun y S1 hy y1 hy1 => ?_
  have hyw : y ∉ ws := fun hm => by
    obtain ⟨j, hj, hj2⟩ := List.getElem_of_mem hm
    rw [← hj2, h7 j _ (List.getElem?_eq_getElem hj)] at hy; cases hy
  have hywl : y ≠ wl := fun z => by rw [z, h3] at hy; cases hy
  refine set_lst (j := d) (y1 _ _ h3) (ixN_nat (by rw [List.length_map]; omega)) (q _ ⟨putNew (h1.trans y1) h2, h2, ws.set d y, ?_, by rw [List.length_set]; exact h4, nodup_set h5 hyw, ?_, ?_⟩)
  · rw [put_same, List.map_set]
  · intro w hw
    rcases List.mem_or_eq_of_mem_set hw with hw | rfl
    · exact h6 w hw
    · exact ⟨h1.none hy, hywl⟩
  · intro j a hj
    by_cases e : j = d
    · subst e
      rw [List.getElem?_set_self (by omega)] at hj
      cases hj
      rw [put_ne hywl, hy1]
      simp [wipeF, Fo.vs]
    · rw [List.getElem?_set_ne (Ne.symm e)] at hj
      rw [put_ne (h6 a (List.mem_of_getElem? hj)).2, y1 _ _ (h7 j a hj)]
      simp [wipeF, e]
/-- waiting[k].append(part) -/
theorem Waits.push {Q : Sto → Prop} (wt : Waits S0 S wl m F) (hk : k = (d : Nat)) (hd : d < m) (hl : (F d).vs.length < 16777216) {n : Str} {b : Val} {w : Str} {r : Int} {h : Val} {cs : Fo} (q : ∀ S', Waits S0 S' wl m (pushF F d n b w r h cs) → Q S') :
    semIx (.ref wl) (.int k) S fun v S1 => ∃ T, mtTy .append v S1 = some T ∧ semMt .append T v [.tup [.str n, b, .str w, .int r, h, .tup cs.vs]] S1 fun _ S2 => Q S2 := by
  subst hk
  obtain ⟨h1, h2, ws, h3, h4, h5, h6, h7⟩ := wt
  have hdw : d < ws.length := by omega
  refine ix_lst (x := .ref ws[d]) h3 (by rw [atI_natE, List.getElem?_map, List.getElem?_eq_getElem (by omega)]; rfl) ?_
  have hv := h7 d _ (List.getElem?_eq_getElem hdw)
  have hw0 := h6 ws[d] (List.getElem_mem hdw)
  refine mt_app hv (do_app hv (by rw [List.length_reverse]; exact hl) (q _ ⟨putNew h1 hw0.1, h2, ws, by rw [put_ne (Ne.symm hw0.2)]; exact h3, h4, h5, h6, ?_⟩))
  intro j a hj
  by_cases e : j = d
  · subst e
    rw [List.getElem?_eq_getElem hdw] at hj
    cases hj
    rw [put_same]
    simp [pushF, Fo.vs]
  · have hne : a ≠ ws[d] := fun z => by
      obtain ⟨hd1, hd2⟩ := List.getElem?_eq_some_iff.mp hj
      exact e ((List.getElem?_inj hd1 h5).mp (by rw [hj, z]; simp [hdw]))
    rw [put_ne hne, h7 j a hj]
    simp [pushF, e]
end
theorem push_wipe {F : Nat → Fo} {d : Nat} {t : Tr} {b h : Val} : pushF (wipeF F (d + 1)) d t.n b t.w t.r h (F (d + 1)) = hangF F d t b h := by
  funext e
  unfold pushF wipeF hangF
  by_cases h1 : e = d
  · rw [if_pos h1, if_pos h1, if_neg (by omega)]
  · rw [if_neg h1, if_neg h1]
end FW

set_option Elab.async false
set_option linter.all false
set_option maxRecDepth 100000
/-! == of values without lists, of lists of them; what a sheet is as data. -/
namespace FW
open PySem PySem.Spec PyProof.Rows L2
/-- without lists, of right texts, at most so deep -/
def Pv (v : Val) (d : Nat) : Prop := v.pur = true ∧ v.pd.canLay0 = true ∧ v.pd.depth ≤ d
def Pvs (vs : List Val) (d : Nat) : Prop := Val.purs vs = true ∧ PyData.canLayAll0 (Val.pds vs) = true ∧ PyData.depthAll (Val.pds vs) ≤ d
theorem Pv.mono {v : Val} {d e : Nat} (h : Pv v d) (g : d ≤ e) : Pv v e := ⟨h.1, h.2.1, Nat.le_trans h.2.2 g⟩
theorem Pvs.nil {d : Nat} : Pvs [] d := ⟨rfl, rfl, Nat.zero_le _⟩
theorem Pvs.cons {v : Val} {vs : List Val} {d : Nat} (h : Pv v d) (g : Pvs vs d) : Pvs (v :: vs) d := by
  obtain ⟨h1, h2, h3⟩ := h
  obtain ⟨g1, g2, g3⟩ := g
  refine ⟨by unfold Val.purs; rw [h1, g1]; rfl, ?_, ?_⟩
  · rw [Val.pds, PyData.canLayAll0, h2, g2]; rfl
  · rw [Val.pds, PyData.depthAll]; exact Nat.max_le.mpr ⟨h3, g3⟩
theorem Pvs.of {vs : List Val} {d : Nat} (h : ∀ v ∈ vs, Pv v d) : Pvs vs d := by
  induction vs with
  | nil => exact .nil
  | cons v vs ih => exact .cons (h v List.mem_cons_self) (ih fun w hw => h w (List.mem_cons_of_mem _ hw))
theorem Pv.tup {vs : List Val} {d : Nat} (h : Pvs vs d) : Pv (.tup vs) (d + 1) := by
  obtain ⟨h1, h2, h3⟩ := h
  refine ⟨by unfold Val.pur; exact h1, ?_, ?_⟩
  · rw [Val.pd, PyData.canLay0]; exact h2
  · rw [Val.pd, PyData.depth]; omega
theorem Pv.non {d : Nat} : Pv .non d := ⟨rfl, rfl, Nat.zero_le _⟩
theorem Pv.bl {b : Bool} {d : Nat} : Pv (.bl b) d := ⟨rfl, rfl, Nat.zero_le _⟩
theorem Pv.int {i : Int} {d : Nat} : Pv (.int i) d := ⟨rfl, rfl, Nat.zero_le _⟩
theorem Pv.str {x : Str} {d : Nat} (h : (PyData.str x).canLay0 = true) : Pv (.str x) d := ⟨rfl, h, Nat.zero_le _⟩
abbrev SOk (x : Str) : Prop := (PyData.str x).canLay0 = true
theorem Pv.box {q : Bx} {d : Nat} : Pv q.v (d + 1) := .tup (.cons .int (.cons .int (.cons .int (.cons .int .nil))))
theorem Pv.optS {o : Option Str} {d : Nat} (h : ∀ x, o = some x → SOk x) : Pv (optV o) d := by
  cases o with
  | none => exact .non
  | some x => exact .str (h x rfl)
theorem Pv.shaped {v : Val} (h : Pv v 64) : SeqAt.shaped v.pd = true := by
  unfold SeqAt.shaped
  rw [h.2.1]
  simpa using h.2.2
section
variable {S : Sto} {v w : Val} {vs ws : List Val} {P : Bool → Prop}
theorem eq_pur (h : Pv v 64) (g : Pv w 64) (q : P (PyData.eqv v.pd w.pd)) : semEq v w S P := by
  have e : ∃ d e, Dv S v d ∧ Dv S w e ∧ SeqAt.shaped d = true ∧ SeqAt.shaped e = true ∧ P (PyData.eqv d e) := ⟨_, _, .of_pur h.1, .of_pur g.1, h.shaped, g.shaped, q⟩
  have d1 : ∀ i j : Int, (i == j) = decide (i = j) := fun i j => rfl
  have d2 : ∀ i j : Str, (i == j) = decide (i = j) := fun i j => by
    by_cases z : i = j
    · subst z; simp
    · rw [decide_eq_false z]; simpa using z
  have d3 : ∀ i j : Bool, (i == j) = decide (i = j) := fun i j => rfl
  cases v <;> cases w <;> first
    | exact e
    | (simp only [Val.pd, PyData.eqv] at q; first | exact q | (rw [d1] at q; exact q) | (rw [d2] at q; exact q) | (rw [d3] at q; exact q))
theorem eqv_self (h : v.pd.canLay0 = true) : PyData.eqv v.pd v.pd = true := SeqAt.eqv_refl _ h
theorem eq_self (h : Pv v 64) (q : P true) : semEq v v S P := eq_pur h h (by rw [SeqAt.eqv_refl _ h.2.1]; exact q)
theorem eq_is (e : v = w) (h : Pv v 64) (q : P true) : semEq v w S P := by subst e; exact eq_self h q
theorem Dv.lstOf {p : Addr} (h : S p = some (.lst vs)) (g : Val.purs vs = true) : Dv S (.ref p) (.list (Val.pds vs)) := .lst (by simp [h]) (.of_purs g)
theorem shaped_lst (h : Pvs vs 63) : SeqAt.shaped (.list (Val.pds vs)) = true := by
  unfold SeqAt.shaped
  rw [PyData.canLay0, h.2.1, PyData.depth]
  have := h.2.2
  simp; omega
theorem eq_lsts {p q : Addr} (hp : S p = some (.lst vs)) (hq : S q = some (.lst ws)) (h : Pvs vs 63) (g : Pvs ws 63) (k : P (PyData.eqvAll (Val.pds vs) (Val.pds ws))) : semEq (.ref p) (.ref q) S P :=
  ⟨_, _, .lstOf hp h.1, .lstOf hq g.1, shaped_lst h, shaped_lst g, by rw [PyData.eqv]; exact k⟩
theorem eq_lst_self {p q : Addr} (hp : S p = some (.lst vs)) (hq : S q = some (.lst vs)) (h : Pvs vs 63) (k : P true) : semEq (.ref p) (.ref q) S P := eq_lsts hp hq h h (by rw [SeqAt.eqvAll_refl _ h.2.1]; exact k)
end
/-- a forest of right things -/
inductive FoOk : Fo → Prop
  | nil : FoOk .nil
  | cons {n w : Str} {r : Int} {b h : Val} {cs ts : Fo} : SOk n → Pv b 1 → SOk w → Pv h 0 → FoOk cs → FoOk ts → FoOk (.cons n b w r h cs ts)
theorem FoOk.pvs : ∀ {fo : Fo}, FoOk fo → Pvs fo.vs (2 * fo.deep)
  | _, .nil => .nil
  | _, .cons (cs := cs) (ts := ts) h1 h2 h3 h4 a b => by
    have i1 := a.pvs
    have i2 := b.pvs
    rw [Fo.vs, Fo.deep]
    refine .cons ?_ ⟨i2.1, i2.2.1, Nat.le_trans i2.2.2 (by omega)⟩
    refine Pv.mono (d := (2 * cs.deep + 1) + 1) (.tup ?_) (by omega)
    exact .cons (.str h1) (.cons (h2.mono (by omega)) (.cons (.str h3) (.cons .int (.cons (h4.mono (by omega)) (.cons (.tup i1) .nil)))))
theorem FoOk.pv {fo : Fo} (h : FoOk fo) (hd : fo.deep ≤ 20) : Pv (.tup fo.vs) 41 := (Pv.tup h.pvs).mono (by omega)
/-! ### the rows of any forest -/
def rowsF : Line → Fo → List Line
  | _, .nil => []
  | p, .cons n b w r h cs ts => (p ++ [⟨n, w, r⟩]) :: (rowsF (p ++ [⟨n, w, r⟩]) cs ++ rowsF p ts)
theorem rowsF_rep : ∀ (p : Line) (fo : Fo), RepF p fo (rowsF p fo)
  | _, .nil => .nil
  | p, .cons n b w r h cs ts => .cons (t := ⟨n, w, r⟩) (rowsF_rep _ cs) (rowsF_rep p ts)
theorem names_rows (fo : Fo) : (ents fo).map Ent.n = (rowsF [] fo).map lname := ((rowsF_rep [] fo).ents [] 0).names
theorem opens_nd {fo : Fo} (nd : ((ents fo).map Ent.n).Nodup) : (opens fo).Nodup := by
  have nd' : ((rowsF [] fo).map lname).Nodup := by rw [← names_rows]; exact nd
  rw [opens_rows (rowsF_rep [] fo) nd']
  exact (List.filter_sublist.map lname).nodup nd'
theorem open_why {fo : Fo} (nd : ((ents fo).map Ent.n).Nodup) {x : Str} (hx : x ∈ opens fo) : ∃ e, at_ (ents fo) x = some e ∧ e ∈ ents fo ∧ e.n = x ∧ whyV (ents fo) e = .non := by
  have nd' : ((rowsF [] fo).map lname).Nodup := by rw [← names_rows]; exact nd
  have r := rowsF_rep [] fo
  rw [opens_rows r nd'] at hx
  obtain ⟨l, hl, rfl⟩ := List.mem_map.mp hx
  obtain ⟨hl, hf⟩ := List.mem_filter.mp hl
  obtain ⟨e, h1, h2⟩ := row_why r nd' hl hf
  have := List.find?_some h1
  exact ⟨e, h1, List.mem_of_find?_eq_some h1, of_decide_eq_true this, h2⟩
/-! ### the kinds of things -/
section
variable {S : Sto} {P : Bool → Prop} {vs : List Val} {t : Ty} {i : Int} {x : Str} {b : Bool}
theorem isi_lst {p : Addr} (h : S p = some (.lst vs)) (q : P (decide (t = .list))) : semIsi (.ref p) t S P := by simp only [semIsi, h]; exact q
@[simp] theorem isi_tupE : semIsi (.tup vs) t S P = P (decide (t = .tuple)) := rfl
@[simp] theorem isi_strE : semIsi (.str x) t S P = P (decide (t = .str)) := rfl
@[simp] theorem isi_intE : semIsi (.int i) t S P = P (decide (t = .int)) := rfl
@[simp] theorem isi_nonE : semIsi .non t S P = P false := rfl
@[simp] theorem isi_blE : semIsi (.bl b) t S P = P (decide (t = .bool) || decide (t = .int)) := rfl
@[simp] theorem isi_scrE : semIsi (.scr vs) t S P = P (decide (t = .list)) := rfl
end
end FW

set_option Elab.async false
set_option linter.all false
set_option maxRecDepth 100000
/-! Rows with heads, hung by spans; what is above a row. -/
namespace FW
open PySem PySem.Spec PyProof.Rows L2
theorem ev_dic {C : CallSem} {ρ : Env} {S : Sto} {P : VP} {X : XP} {es : Es} : ev C (.dic es) ρ S P X = evs C es ρ S (fun vs S1 => vs.length ≤ 30 ∧ ∃ ps, pairsOf vs = some ps ∧ allK ps = true ∧ allo S1 (.dic (ps.foldl (fun d p => dput d p.1 p.2) [])) P) (fun _ _ => False) := by simp only [ev]
structure Ro where
  d : Nat
  n : Str
  b : Bx
  w : Str
  r : Int
  h : Option Str
def Ro.vals (r : Ro) : List Val := [.int (r.d : Nat), .str r.n, r.b.v, .str r.w, .int r.r, optV r.h]
def Ro.rw (r : Ro) : Rw := ⟨r.d, ⟨r.n, r.w, r.r⟩, r.b⟩
def spanA (dp : Nat) (rs : List Ro) : List Ro := rs.takeWhile fun s => decide (dp < s.d)
def spanB (dp : Nat) (rs : List Ro) : List Ro := rs.dropWhile fun s => decide (dp < s.d)
theorem span_app (dp : Nat) (rs : List Ro) : spanA dp rs ++ spanB dp rs = rs := List.takeWhile_append_dropWhile
theorem spanA_len (dp : Nat) (rs : List Ro) : (spanA dp rs).length ≤ rs.length := by
  have := congrArg List.length (span_app dp rs)
  rw [List.length_append] at this; omega
theorem spanB_len (dp : Nat) (rs : List Ro) : (spanB dp rs).length ≤ rs.length := by
  have := congrArg List.length (span_app dp rs)
  rw [List.length_append] at this; omega
theorem spanA_mem {dp : Nat} {rs : List Ro} {r : Ro} (h : r ∈ spanA dp rs) : dp < r.d := by
  induction rs with
  | nil => cases h
  | cons s rs ih =>
    unfold spanA at h ih
    rw [List.takeWhile_cons] at h
    split at h
    · rename_i hd
      rcases List.mem_cons.mp h with rfl | h
      · simpa using hd
      · exact ih h
    · cases h
theorem spanB_hd {dp : Nat} {rs : List Ro} {r : Ro} {t : List Ro} (h : spanB dp rs = r :: t) : r.d ≤ dp := by
  induction rs with
  | nil => cases h
  | cons s rs ih =>
    unfold spanB at h ih
    rw [List.dropWhile_cons] at h
    split at h
    · exact ih h
    · rename_i hd
      cases h
      simpa using hd
def foOf (dp : Nat) (rs : List Ro) : Fo := match rs with
  | [] => .nil
  | r :: rs => .cons r.n r.b.v r.w r.r (optV r.h) (foOf (dp + 1) (spanA dp rs)) (foOf dp (spanB dp rs))
termination_by rs.length
decreasing_by
  · have := spanA_len dp rs; simp; omega
  · have := spanB_len dp rs; simp; omega
theorem foOf_nil {dp : Nat} : foOf dp [] = .nil := by rw [foOf]
theorem foOf_cons {dp : Nat} {r : Ro} {rs : List Ro} : foOf dp (r :: rs) = .cons r.n r.b.v r.w r.r (optV r.h) (foOf (dp + 1) (spanA dp rs)) (foOf dp (spanB dp rs)) := by rw [foOf]
/-- induction along the spans -/
theorem span_ind {M : Nat → List Ro → Prop} (h0 : ∀ dp, M dp []) (h1 : ∀ dp r rs, M (dp + 1) (spanA dp rs) → M dp (spanB dp rs) → M dp (r :: rs)) : ∀ (n dp : Nat) (rs : List Ro), rs.length ≤ n → M dp rs
  | _, dp, [], _ => h0 dp
  | 0, dp, r :: rs, h => by simp at h
  | n + 1, dp, r :: rs, h => by
    simp at h
    exact h1 dp r rs (span_ind h0 h1 n _ _ (Nat.le_trans (spanA_len dp rs) h)) (span_ind h0 h1 n _ _ (Nat.le_trans (spanB_len dp rs) h))
/-- what entries tell, row by row -/
def Ent.key (e : Ent) : Str × Val × Str × Int × Val := (e.n, e.b, e.w, e.r, e.h)
def Ro.key (r : Ro) : Str × Val × Str × Int × Val := (r.n, r.b.v, r.w, r.r, optV r.h)
theorem foOf_keys (dp : Nat) (rs : List Ro) : ∀ (anc : List Str) (pl : List Val) (k : Nat), (lay anc pl k (foOf dp rs)).map Ent.key = rs.map Ro.key := by
  refine span_ind (M := fun dp rs => ∀ (anc : List Str) (pl : List Val) (k : Nat), (lay anc pl k (foOf dp rs)).map Ent.key = rs.map Ro.key) ?_ ?_ _ dp rs (Nat.le_refl _)
  · intro dp anc pl k
    rw [foOf_nil]; rfl
  · intro dp r rs ia ib anc pl k
    rw [foOf_cons, lay, List.map_cons, List.map_append, ia, ib, ← List.map_append, span_app]; rfl
theorem foOf_size (dp : Nat) (rs : List Ro) : (foOf dp rs).size = rs.length := by
  have := congrArg List.length (foOf_keys dp rs [] [] 0)
  rwa [List.length_map, lay_len, List.length_map] at this
/-- rows of a level and what is within: the first at dp, none above, none too deep -/
def Lv (dp : Nat) (rs : List Ro) : Prop := (∀ r ∈ rs, dp ≤ r.d) ∧ WfR dp (rs.map Ro.rw)
theorem wf_append : ∀ {A B : List Rw} {k : Nat}, WfR k (A ++ B) → WfR k A ∧ ∃ j, WfR j B
  | [], B, k, h => ⟨trivial, k, h⟩
  | a :: A, B, k, h => by
    obtain ⟨h1, j, h2⟩ := wf_append (A := A) h.2
    exact ⟨⟨h.1, h1⟩, j, h2⟩
theorem wf_hd {j k : Nat} {B : List Rw} (h : WfR j B) (g : ∀ r t, B = r :: t → r.d ≤ k) : WfR k B := by
  cases B with
  | nil => trivial
  | cons r t => exact ⟨g r t rfl, h.2⟩
theorem Lv.split {dp : Nat} {r : Ro} {rs : List Ro} (h : Lv dp (r :: rs)) : r.d = dp ∧ Lv (dp + 1) (spanA dp rs) ∧ Lv dp (spanB dp rs) := by
  obtain ⟨h1, h2⟩ := h
  have hd : r.d = dp := by
    have a := h1 r List.mem_cons_self
    have b : r.d ≤ dp := h2.1
    omega
  have w : WfR (r.d + 1) ((spanA dp rs ++ spanB dp rs).map Ro.rw) := by rw [span_app]; exact h2.2
  rw [List.map_append] at w
  obtain ⟨wa, j, wb⟩ := wf_append w
  refine ⟨hd, ⟨fun s hs => spanA_mem hs, by rw [hd] at wa; exact wa⟩, fun s hs => h1 s (List.mem_cons_of_mem _ (by rw [← span_app dp rs]; exact List.mem_append_right _ hs)), wf_hd wb ?_⟩
  intro q t e
  cases hB : spanB dp rs with
  | nil => rw [hB] at e; cases e
  | cons s u =>
    rw [hB] at e
    cases e
    exact spanB_hd hB
theorem lines_app {B : List Rw} {m : Nat} : ∀ {A : List Rw} {c : Line}, (∀ r ∈ A, m ≤ r.d) → m ≤ c.length → WfR c.length A → ∃ c', FW.linesOf c (A ++ B) = FW.linesOf c A ++ FW.linesOf c' B ∧ c'.take m = c.take m ∧ m ≤ c'.length
  | [], c, _, h, _ => ⟨c, rfl, rfl, h⟩
  | a :: A, c, hm, hl, hw => by
    have ha := hm a List.mem_cons_self
    have e := takeLen (t := a.t) hw.1
    obtain ⟨c', h1, h2, h3⟩ := lines_app (B := B) (A := A) (c := c.take a.d ++ [a.t]) (fun r hr => hm r (List.mem_cons_of_mem _ hr)) (by rw [e]; omega) (by rw [e]; exact hw.2)
    refine ⟨c', by rw [List.cons_append, FW.linesOf, h1]; rfl, ?_, h3⟩
    rw [h2, List.take_append_of_le_length (by simp; omega), List.take_take, Nat.min_eq_left ha]
theorem lines_same {m : Nat} : ∀ {B : List Rw} {c c' : Line}, c.take m = c'.take m → (∀ r t, B = r :: t → r.d ≤ m) → FW.linesOf c B = FW.linesOf c' B
  | [], _, _, _, _ => rfl
  | b :: B, c, c', h, g => by
    have hb := g b B rfl
    have e : c.take b.d = c'.take b.d := by
      have := congrArg (List.take b.d) h
      rwa [List.take_take, List.take_take, Nat.min_eq_left hb] at this
    rw [FW.linesOf, FW.linesOf, e]
theorem foOf_rep (dp : Nat) (rs : List Ro) : Lv dp rs → ∀ (c p : Line), c.take dp = p → p.length = dp → RepF p (foOf dp rs) (FW.linesOf c (rs.map Ro.rw)) := by
  refine span_ind (M := fun dp rs => Lv dp rs → ∀ (c p : Line), c.take dp = p → p.length = dp → RepF p (foOf dp rs) (FW.linesOf c (rs.map Ro.rw))) ?_ ?_ _ dp rs (Nat.le_refl _)
  · intro dp _ c p _ _
    rw [foOf_nil]; exact .nil
  · intro dp r rs ia ib h c p hc hp
    obtain ⟨hd, la, lb⟩ := h.split
    have e1 : (r :: rs).map Ro.rw = r.rw :: ((spanA dp rs).map Ro.rw ++ (spanB dp rs).map Ro.rw) := by rw [← List.map_append, span_app]; rfl
    have hl : (p ++ [r.rw.t]).length = dp + 1 := by simp [hp]
    have e0 : c.take r.rw.d ++ [r.rw.t] = p ++ [r.rw.t] := by rw [show r.rw.d = dp from hd, hc]
    obtain ⟨c', h1, h2, h3⟩ := lines_app (m := dp) (B := (spanB dp rs).map Ro.rw) (A := (spanA dp rs).map Ro.rw) (c := p ++ [r.rw.t]) (fun s hs => by
      obtain ⟨q, hq, rfl⟩ := List.mem_map.mp hs
      have := la.1 q hq
      show dp ≤ q.d; omega) (by rw [hl]; omega) (by rw [hl]; exact la.2)
    rw [e1, FW.linesOf, e0, h1, foOf_cons]
    have t2 : (p ++ [r.rw.t]).take dp = p := by rw [List.take_append_of_le_length (by omega), List.take_of_length_le (by omega)]
    exact .cons (t := r.rw.t) (ia la _ _ (by rw [List.take_of_length_le (by omega)]) hl) (ib lb c' p (by rw [h2, t2]) hp)
abbrev shOf (rs : List Ro) : Fo := foOf 0 rs
theorem lv0 {rs : List Ro} (h : WfR 0 (rs.map Ro.rw)) : Lv 0 rs := ⟨fun _ _ => Nat.zero_le _, h⟩
theorem shOf_rep {rs : List Ro} (h : WfR 0 (rs.map Ro.rw)) : RepF [] (shOf rs) (FW.linesOf [] (rs.map Ro.rw)) := foOf_rep 0 rs (lv0 h) [] [] rfl rfl
theorem shOf_names {rs : List Ro} : (ents (shOf rs)).map Ent.n = rs.map Ro.n := by
  have := congrArg (List.map fun k : Str × Val × Str × Int × Val => k.1) (foOf_keys 0 rs [] [] 0)
  rw [List.map_map, List.map_map] at this
  exact this
theorem ent_row {rs : List Ro} {e : Ent} (h : e ∈ ents (shOf rs)) : ∃ r ∈ rs, e.n = r.n ∧ e.b = r.b.v ∧ e.w = r.w ∧ e.r = r.r ∧ e.h = optV r.h := by
  have : e.key ∈ rs.map Ro.key := by rw [← foOf_keys 0 rs [] [] 0]; exact List.mem_map.mpr ⟨e, h, rfl⟩
  obtain ⟨r, hr, hk⟩ := List.mem_map.mp this
  simp only [Ro.key, Ent.key, Prod.mk.injEq] at hk
  exact ⟨r, hr, hk.1.symm, hk.2.1.symm, hk.2.2.1.symm, hk.2.2.2.1.symm, hk.2.2.2.2.symm⟩
theorem shOf_box {rs : List Ro} : ∀ e ∈ ents (shOf rs), BoxOk e.b := fun e he => by
  obtain ⟨r, _, _, h, _⟩ := ent_row he
  rw [h]; exact boxOk_v _
theorem shOf_deep {rs : List Ro} {m : Nat} (h : WfR 0 (rs.map Ro.rw)) (g : ∀ r ∈ rs, r.d < m) : (shOf rs).deep ≤ m := by
  have := (shOf_rep h).deep (m := m) (lines_lens h fun r hr => by
    obtain ⟨q, hq, rfl⟩ := List.mem_map.mp hr
    have := g q hq
    show q.d + 1 ≤ m; omega)
  simpa using this
/-! ### what is above a row -/
def abvGo (ds : List Nat) : Nat → Nat → List Nat
  | 0, _ => []
  | j + 1, deep => if ds.getD j 0 < deep then j :: abvGo ds j (ds.getD j 0) else abvGo ds j deep
def abv (ds : List Nat) (k : Nat) : List Nat := (abvGo ds k (ds.getD k 0)).reverse
theorem abvGo_lt {ds : List Nat} : ∀ {j deep i : Nat}, i ∈ abvGo ds j deep → i < j
  | 0, _, i, h => nomatch h
  | j + 1, deep, i, h => by
    unfold abvGo at h
    split at h
    · rcases List.mem_cons.mp h with rfl | h
      · omega
      · have := abvGo_lt h; omega
    · have := abvGo_lt h; omega
theorem abvGo_len {ds : List Nat} : ∀ {j deep : Nat}, (abvGo ds j deep).length ≤ j
  | 0, _ => Nat.le_refl _
  | j + 1, deep => by
    unfold abvGo
    split
    · have := abvGo_len (ds := ds) (j := j) (deep := ds.getD j 0); rw [List.length_cons]; omega
    · have := abvGo_len (ds := ds) (j := j) (deep := deep); omega
/-- the line at which one stands behind some rows -/
def curOf (rs : List Rw) : Line := rs.foldl (fun c r => c.take r.d ++ [r.t]) []
theorem curOf_snoc {rs : List Rw} {r : Rw} : curOf (rs ++ [r]) = (curOf rs).take r.d ++ [r.t] := by unfold curOf; rw [List.foldl_append]; rfl
theorem lines_cur : ∀ {rs : List Rw} {c : Line} {k : Nat} {r : Rw}, rs[k]? = some r → (FW.linesOf c rs)[k]? = some ((((rs.take k).foldl (fun c r => c.take r.d ++ [r.t]) c).take r.d) ++ [r.t])
  | [], c, k, r, h => by simp at h
  | s :: rs, c, 0, r, h => by
    have : s = r := by simpa using h
    subst this
    rw [FW.linesOf]; rfl
  | s :: rs, c, k + 1, r, h => by
    rw [FW.linesOf, List.getElem?_cons_succ, lines_cur (by simpa using h)]; rfl
def dsOf (rs : List Rw) : List Nat := rs.map Rw.d
def nmAt (rs : List Rw) (i : Nat) : Tr := (rs.map Rw.t).getD i ⟨"", "", 0⟩
theorem wf_take {rs : List Rw} : ∀ {k : Nat}, WfR 0 rs → WfR 0 (rs.take k) := fun {k} h => by
  have : rs = rs.take k ++ rs.drop k := (List.take_append_drop k rs).symm
  rw [this] at h
  exact (wf_append h).1
theorem cur_len : ∀ {rs : List Rw} {c : Line}, WfR c.length rs → ∀ {k : Nat} {r : Rw}, rs[k]? = some r → r.d ≤ ((rs.take k).foldl (fun c r => c.take r.d ++ [r.t]) c).length
  | [], c, h, k, r, e => by simp at e
  | s :: rs, c, h, 0, r, e => by
    have : s = r := by simpa using e
    subst this
    exact h.1
  | s :: rs, c, h, k + 1, r, e => by
    have := cur_len (rs := rs) (c := c.take s.d ++ [s.t]) (by rw [takeLen h.1]; exact h.2) (k := k) (r := r) (by simpa using e)
    exact this
/-- names above, told by numbers -/
theorem cur_abv {rs : List Rw} (h : WfR 0 rs) : ∀ (j m : Nat), j ≤ rs.length → m ≤ (curOf (rs.take j)).length → (curOf (rs.take j)).take m = ((abvGo (dsOf rs) j m).reverse).map (nmAt rs)
  | 0, m, _, hm => by
    have : m = 0 := by simpa [curOf] using hm
    subst this; rfl
  | j + 1, m, hj, hm => by
    have hlt : j < rs.length := by omega
    have e1 : rs.take (j + 1) = rs.take j ++ [rs[j]] := by rw [List.take_succ, List.getElem?_eq_getElem hlt]; rfl
    have hd : rs[j].d ≤ (curOf (rs.take j)).length := cur_len (c := []) h (List.getElem?_eq_getElem hlt)
    rw [e1, curOf_snoc] at hm ⊢
    have hlen : ((curOf (rs.take j)).take rs[j].d ++ [rs[j].t]).length = rs[j].d + 1 := takeLen hd
    rw [hlen] at hm
    have dj : (dsOf rs).getD j 0 = rs[j].d := by unfold dsOf; simp [List.getD_eq_getElem?_getD, hlt]
    have tj : nmAt rs j = rs[j].t := by unfold nmAt; simp [List.getD_eq_getElem?_getD, hlt]
    rw [abvGo, dj]
    by_cases hc : rs[j].d < m
    · rw [if_pos hc]
      have hm2 : m = rs[j].d + 1 := by omega
      rw [List.take_of_length_le (by rw [hlen]; omega), cur_abv h j rs[j].d (by omega) hd, List.reverse_cons, List.map_append]
      simp [tj]
    · rw [if_neg hc, List.take_append_of_le_length (by simp; omega), List.take_take, Nat.min_eq_left (by omega)]
      exact cur_abv h j m (by omega) (by omega)
theorem line_abv {rs : List Rw} (h : WfR 0 rs) {k : Nat} {r : Rw} (hk : rs[k]? = some r) : (FW.linesOf [] rs)[k]? = some (((abv (dsOf rs) k ++ [k]).map (nmAt rs))) := by
  have hlt := (List.getElem?_eq_some_iff.mp hk).1
  rw [lines_cur hk]
  have hd : r.d ≤ (curOf (rs.take k)).length := cur_len (c := []) h hk
  have dk : (dsOf rs).getD k 0 = r.d := by unfold dsOf; simp [List.getD_eq_getElem?_getD, hk]
  have tk : nmAt rs k = r.t := by unfold nmAt; simp [List.getD_eq_getElem?_getD, hk]
  have := cur_abv h k r.d (by omega) hd
  show some ((curOf (rs.take k)).take r.d ++ [r.t]) = _
  rw [this]
  unfold abv
  rw [dk, List.map_append]
  simp [tk]
end FW
namespace FW
open PySem PySem.Spec PyProof.Rows L2
/-! ### names -/
def chr1 (c : Nat) : Str := ⟨#[c]⟩
def lets : Str := "abcdefghijklmnopqrstuvwxyz"
theorem lets_cps : lets.cps.toList = (List.range 26).map (97 + ·) := by decide +kernel
theorem lets_len : lets.length = 26 := by decide +kernel
theorem letter_ix {i : Int} {S : Sto} {P : VP} (h0 : 0 ≤ i) (h1 : i < 26) (q : P (.str (chr1 (97 + i.toNat))) S) : semIx (.str lets) (.int i) S P := by
  refine ix_str (c := 97 + i.toNat) (by rw [lets_len]; decide) ?_ q
  obtain ⟨k, rfl⟩ : ∃ k : Nat, i = (k : Int) := ⟨i.toNat, by omega⟩
  rw [lets_cps, atI_natE, List.getElem?_map, List.getElem?_range (by omega)]; rfl
/-- a name of the right kind -/
def NameOk (x : Str) : Prop := 1 ≤ x.cps.toList.length ∧ x.cps.toList.length ≤ 8 ∧ ∀ c ∈ x.cps.toList, 97 ≤ c ∧ c ≤ 122
theorem NameOk.s {x : Str} (h : NameOk x) : SOk x := by
  show PyData.canLay0 (.str x) = true
  unfold PyData.canLay0
  show x.cps.all _ = true
  rw [← Array.all_toList, List.all_eq_true]
  intro c hc
  have := h.2.2 c hc
  simp; omega
theorem nodup_range_map {α : Type} {n : Nat} {g : Nat → α} (h : ∀ a b, a < n → b < n → g a = g b → a = b) : ((List.range n).map g).Nodup := by
  refine List.Pairwise.map (R := fun a b => a < n ∧ b < n ∧ a ≠ b) _ (fun a b ⟨ha, hb, hab⟩ e => hab (h a b ha hb e)) ?_
  exact List.Pairwise.imp_of_mem (fun {a b} ha hb hab => ⟨List.mem_range.mp ha, List.mem_range.mp hb, hab⟩) List.nodup_range
theorem joinL_one : ∀ cs : List Nat, TL.joinL [] (cs.map fun c => [c]) = cs
  | [] => rfl
  | [c] => rfl
  | c :: d :: r => by
    have := joinL_one (d :: r)
    rw [List.map_cons, List.map_cons, TL.joinL]
    rw [List.map_cons] at this
    rw [this]; rfl
theorem join_chr (cs : List Nat) : Txt.join "" (cs.map chr1) = ⟨cs.toArray⟩ := by
  rw [TL.join_eq]
  refine Str.ext' ?_
  have e : TL.tl (Str.join ("" : Str) (cs.map chr1)) = cs := by
    rw [TL.tl_join, List.map_map]
    exact joinL_one cs
  have e2 : (Str.join ("" : Str) (cs.map chr1)).cps.toList = cs := e
  rw [← Array.toList_inj, e2]
theorem sum_chr : ∀ cs : List Nat, ((cs.map chr1).map Str.length).sum = cs.length
  | [] => rfl
  | c :: cs => by
    rw [List.map_cons, List.map_cons, List.sum_cons, sum_chr cs, List.length_cons]
    show 1 + _ = _
    omega
end FW
namespace FW
open PySem PySem.Spec PyProof.Rows L2
theorem rng_mem {m : Nat} {v : Val} (hv : v ∈ rngL 0 m) : ∃ i : Nat, i < m ∧ v = .int ((i : Nat) : Int) := by
  unfold rngL at hv
  obtain ⟨i, hi, rfl⟩ := List.mem_map.mp hv
  exact ⟨i, List.mem_range.mp hi, by rw [Int.zero_add]⟩
def natV (g : Nat → Val) : Val → Option Val
  | .int k => some (g k.toNat)
  | _ => none
theorem rng_fm {g : Nat → Val} {m : Nat} : (rngL 0 m).filterMap (natV g) = (List.range m).map g := by
  unfold rngL
  rw [List.filterMap_map, ← List.filterMap_eq_map]
  congr 1
  funext i
  simp [natV]
end FW
namespace FW
open PySem PySem.Spec PyProof.Rows L2
/-! ### rows in the store -/
def lastD : Nat → List Rw → Nat
  | k, [] => k
  | _, r :: rs => lastD (r.d + 1) rs
theorem wf_snoc {r : Rw} : ∀ {k : Nat} {rs : List Rw}, WfR k rs → r.d ≤ lastD k rs → WfR k (rs ++ [r])
  | k, [], _, h => ⟨h, trivial⟩
  | k, s :: rs, h, g => ⟨h.1, wf_snoc h.2 g⟩
theorem lastD_snoc {r : Rw} : ∀ {k : Nat} {rs : List Rw}, lastD k (rs ++ [r]) = r.d + 1
  | k, [] => rfl
  | k, s :: rs => lastD_snoc (k := s.d + 1) (rs := rs)
inductive RoAt (S : Sto) : List Addr → List Ro → Prop
  | nil : RoAt S [] []
  | cons {a : Addr} {r : Ro} {as : List Addr} {rs : List Ro} : S a = some (.lst r.vals) → RoAt S as rs → RoAt S (a :: as) (r :: rs)
theorem RoAt.ext {S S' : Sto} (x : Ext S S') : ∀ {as : List Addr} {rs : List Ro}, RoAt S as rs → RoAt S' as rs
  | _, _, .nil => .nil
  | _, _, .cons h t => .cons (x _ _ h) (t.ext x)
theorem RoAt.extOn {S S' : Sto} : ∀ {as : List Addr} {rs : List Ro}, RoAt S as rs → (∀ a o, a ∈ as → S a = some o → S' a = some o) → RoAt S' as rs
  | _, _, .nil, _ => .nil
  | _, _, .cons h t, x => .cons (x _ _ List.mem_cons_self h) (t.extOn fun a o ha => x a o (List.mem_cons_of_mem _ ha))
theorem RoAt.len {S : Sto} : ∀ {as : List Addr} {rs : List Ro}, RoAt S as rs → as.length = rs.length
  | _, _, .nil => rfl
  | _, _, .cons _ t => by rw [List.length_cons, List.length_cons, t.len]
theorem RoAt.get {S : Sto} : ∀ {as : List Addr} {rs : List Ro} {k : Nat} {r : Ro}, RoAt S as rs → rs[k]? = some r → ∃ a, as[k]? = some a ∧ S a = some (.lst r.vals)
  | _, _, k, r, .nil, h => by simp at h
  | _, _, 0, r, .cons h t, e => by simp at e; subst e; exact ⟨_, rfl, h⟩
  | _, _, k + 1, r, .cons h t, e => by
    obtain ⟨a, h1, h2⟩ := t.get (k := k) (r := r) (by simpa using e)
    exact ⟨a, by simpa using h1, h2⟩
theorem RoAt.snoc {S : Sto} {a : Addr} {r : Ro} (h : S a = some (.lst r.vals)) : ∀ {as : List Addr} {rs : List Ro}, RoAt S as rs → RoAt S (as ++ [a]) (rs ++ [r])
  | _, _, .nil => .cons h .nil
  | _, _, .cons g t => .cons g (t.snoc h)
theorem RoAt.drop {S : Sto} : ∀ {as : List Addr} {rs : List Ro} (n : Nat), RoAt S as rs → RoAt S (as.drop n) (rs.drop n)
  | _, _, 0, h => h
  | _, _, n + 1, .nil => .nil
  | _, _, n + 1, .cons _ t => t.drop n
theorem RoAt.take {S : Sto} : ∀ {as : List Addr} {rs : List Ro} (n : Nat), RoAt S as rs → RoAt S (as.take n) (rs.take n)
  | _, _, 0, _ => .nil
  | _, _, n + 1, .nil => .nil
  | _, _, n + 1, .cons h t => .cons h (t.take n)
theorem RoAt.some {S : Sto} : ∀ {as : List Addr} {rs : List Ro}, RoAt S as rs → ∀ a ∈ as, ∃ o, S a = some o
  | _, _, .cons h t, a, ha => by
    rcases List.mem_cons.mp ha with rfl | ha
    · exact ⟨_, h⟩
    · exact t.some a ha
def RowsL (S : Sto) (R : Addr) (as : List Addr) (rs : List Ro) : Prop := S R = Option.some (.lst (as.map .ref)) ∧ RoAt S as rs
theorem RowsL.ext {S S' : Sto} {R : Addr} {as : List Addr} {rs : List Ro} (x : Ext S S') (h : RowsL S R as rs) : RowsL S' R as rs := ⟨x _ _ h.1, h.2.ext x⟩
theorem RowsL.extB {S S' : Sto} {p R : Addr} {as : List Addr} {rs : List Ro} (h : RowsL S R as rs) (x : ExtB p S S') (g : R ≠ p) (g2 : ∀ a ∈ as, a ≠ p) : RowsL S' R as rs := ⟨x _ _ g h.1, h.2.extOn fun a o ha z => x a o (g2 a ha) z⟩
/-- a row put behind the others -/
theorem RowsL.app {S : Sto} {R a : Addr} {as : List Addr} {rs : List Ro} {r : Ro} (h : RowsL S R as rs) (ha : S a = Option.some (.lst r.vals)) (hR : R ∉ as) (hRa : R ≠ a) : RowsL (S.put R (.lst (as.map .ref ++ [.ref a]))) R (as ++ [a]) (rs ++ [r]) := by
  refine ⟨by rw [put_same]; simp, RoAt.snoc (by rw [put_ne (Ne.symm hRa)]; exact ha) (h.2.extOn fun b o hb z => by rw [put_ne (a := R) (fun y : b = R => hR (by rw [← y]; exact hb))]; exact z)⟩
/-- the last row written -/
theorem RowsL.last {S : Sto} {R a : Addr} {as : List Addr} {rs : List Ro} {r r' : Ro} (h : RowsL S R (as ++ [a]) (rs ++ [r])) (hl : as.length = rs.length) (hR : R ≠ a) (ha : a ∉ as) : RowsL (S.put a (.lst r'.vals)) R (as ++ [a]) (rs ++ [r']) := by
  refine ⟨by rw [put_ne hR]; exact h.1, RoAt.snoc put_same ?_⟩
  have := h.2.take as.length
  rw [List.take_left, hl, List.take_left] at this
  exact this.extOn fun b o hb z => by rw [put_ne (a := a) (fun y : b = a => ha (by rw [← y]; exact hb))]; exact z
theorem row_ix {S : Sto} {R : Addr} {as : List Addr} {rs : List Ro} {k : Nat} {r : Ro} {P : VP} (h : RowsL S R as rs) (hk : rs[k]? = Option.some r) (q : ∀ a, as[k]? = Option.some a → S a = Option.some (.lst r.vals) → P (.ref a) S) : semIx (.ref R) (.int (k : Nat)) S P := by
  obtain ⟨a, h1, h2⟩ := h.2.get hk
  exact ix_lst (x := .ref a) h.1 (by rw [atI_natE, List.getElem?_map, h1]; rfl) (q a h1 h2)
theorem row_0 {S : Sto} {a : Addr} {r : Ro} {P : VP} (h : S a = Option.some (.lst r.vals)) (q : P (.int (r.d : Nat)) S) : semIx (.ref a) (.int 0) S P := ix_lst h rfl q
theorem row_1 {S : Sto} {a : Addr} {r : Ro} {P : VP} (h : S a = Option.some (.lst r.vals)) (q : P (.str r.n) S) : semIx (.ref a) (.int 1) S P := ix_lst h rfl q
theorem row_2 {S : Sto} {a : Addr} {r : Ro} {P : VP} (h : S a = Option.some (.lst r.vals)) (q : P r.b.v S) : semIx (.ref a) (.int 2) S P := ix_lst h rfl q
theorem row_3 {S : Sto} {a : Addr} {r : Ro} {P : VP} (h : S a = Option.some (.lst r.vals)) (q : P (.str r.w) S) : semIx (.ref a) (.int 3) S P := ix_lst h rfl q
theorem row_4 {S : Sto} {a : Addr} {r : Ro} {P : VP} (h : S a = Option.some (.lst r.vals)) (q : P (.int r.r) S) : semIx (.ref a) (.int 4) S P := ix_lst h rfl q
theorem row_5 {S : Sto} {a : Addr} {r : Ro} {P : VP} (h : S a = Option.some (.lst r.vals)) (q : P (optV r.h) S) : semIx (.ref a) (.int 5) S P := ix_lst h rfl q
theorem rngL_succ {j : Nat} : rngL 0 (j + 1) = rngL 0 j ++ [.int ((j : Nat) : Int)] := by
  unfold rngL
  rw [List.range_succ, List.map_append]
  simp
def rds (rs : List Ro) : List Nat := rs.map Ro.d
theorem rds_at {rs : List Ro} {k : Nat} {r : Ro} (h : rs[k]? = Option.some r) : (rds rs).getD k 0 = r.d := by unfold rds; simp [List.getD_eq_getElem?_getD, h]
def words3 : List Str := ["free", "shut", "hidden"]
/-- right rows: heads are rows ahead that are not around -/
structure RosOk (rs : List Ro) (m : Nat) : Prop where
  len : rs.length ≤ m
  wf : WfR 0 (rs.map Ro.rw)
  nd : (rs.map Ro.n).Nodup
  nm : ∀ r ∈ rs, NameOk r.n
  ds : ∀ r ∈ rs, r.d ≤ 4
  wd : ∀ r ∈ rs, r.w ∈ words3
  rk : ∀ r ∈ rs, 0 ≤ r.r
  bx : ∀ r ∈ rs, 1 ≤ r.b.w ∧ 1 ≤ r.b.h
  hd : ∀ k r, rs[k]? = Option.some r → ∀ x, r.h = Option.some x → ∃ j s, j < k ∧ rs[j]? = Option.some s ∧ s.n = x ∧ j ∉ abv (rds rs) k
theorem abvGo_app {ds es : List Nat} : ∀ {j deep : Nat}, j ≤ ds.length → abvGo (ds ++ es) j deep = abvGo ds j deep
  | 0, _, _ => rfl
  | j + 1, deep, h => by
    have e : (ds ++ es).getD j 0 = ds.getD j 0 := by simp [List.getD_eq_getElem?_getD, List.getElem?_append_left (show j < ds.length by omega)]
    rw [abvGo, abvGo, e, abvGo_app (by omega), abvGo_app (by omega)]
theorem abv_app {ds es : List Nat} {k : Nat} (h : k < ds.length) : abv (ds ++ es) k = abv ds k := by
  unfold abv
  have e : (ds ++ es).getD k 0 = ds.getD k 0 := by simp [List.getD_eq_getElem?_getD, List.getElem?_append_left h]
  rw [e, abvGo_app (by omega)]
end FW
namespace FW
open PySem PySem.Spec PyProof.Rows L2
/-! ### while -/
theorem whileL_from {c : Env → Sto → (Bool → Sto → Prop) → Prop} {b : Env → Sto → (Env → Sto → Prop) → Prop} {nx : Env → Sto → Prop} (I : Nat → Env → Sto → Prop) (h0 : ∀ ρ S, ¬ I 0 ρ S)
    (step : ∀ m ρ S (K : Env → Sto → Prop), I (m + 1) ρ S → (∀ ρ' S', I m ρ' S' → K ρ' S') → c ρ S fun t S1 => if t then b ρ S1 K else nx ρ S1) : ∀ m ρ S, I m ρ S → whileL c b nx m ρ S
  | 0, ρ, S, h => (h0 ρ S h).elim
  | m + 1, ρ, S, h => step m ρ S _ h fun ρ' S' q => whileL_from I h0 step m ρ' S' q
theorem wh_from {C : CallSem} {e : E} {s : Sts} {ρ : Env} {S : Sto} {D : EndsE} (I : Nat → Env → Sto → Prop) (h0 : ∀ ρ S, ¬ I 0 ρ S)
    (step : ∀ m ρ S (K : Env → Sto → Prop), I (m + 1) ρ S → (∀ ρ' S', I m ρ' S' → K ρ' S') → ev C e ρ S (fun v S1 => ∃ t, v = .bl t ∧ if t then exs C s ρ S1 ⟨K, D.rt, D.xp⟩ else D.nx ρ S1) (D.xp ρ)) {m : Nat} (h : I m ρ S) : ex1 C (.wh e s) ρ S D := by
  rw [ex_wh]
  exact ⟨m, whileL_from I h0 step m ρ S h⟩
theorem cut_mid {α : Type} (vs : List α) (a b : Nat) : cut vs (some (a : Int)) (some (b : Int)) = (vs.drop a).take (b - a) := by
  unfold cut
  rw [HT.sIx_nat, HT.sIx_nat]
  by_cases h : a ≤ vs.length
  · rw [Nat.min_eq_left h]
    by_cases g : b ≤ vs.length
    · rw [Nat.min_eq_left g]
    · rw [Nat.min_eq_right (by omega), List.take_of_length_le (by rw [List.length_drop]; omega), List.take_of_length_le (by rw [List.length_drop]; omega)]
  · rw [List.drop_eq_nil_of_le (show vs.length ≤ min a vs.length by omega), List.drop_eq_nil_of_le (show vs.length ≤ a by omega), List.take_nil, List.take_nil]
theorem RowsL.sub {S : Sto} {R R' : Addr} {as : List Addr} {rs : List Ro} (h : RowsL S R as rs) (a n : Nat) (e : S R' = some (.lst (((as.map Val.ref).drop a).take n))) : RowsL S R' ((as.drop a).take n) ((rs.drop a).take n) := by
  refine ⟨?_, (h.2.drop a).take n⟩
  rw [e, List.map_take, List.map_drop]
end FW

set_option Elab.async false
set_option linter.all false
set_option maxRecDepth 100000
/-! Sheets with other boxes: what is nearest then. -/
namespace FW
open PySem PySem.Spec PyProof.Rows L2
/-- all boxes are boxes -/
inductive FoBx : Fo → Prop
  | nil : FoBx .nil
  | cons {n w : Str} {r : Int} {q : Bx} {h : Val} {cs ts : Fo} : FoBx cs → FoBx ts → FoBx (.cons n q.v w r h cs ts)
theorem FoBx.box : ∀ {fo : Fo}, FoBx fo → ∀ (anc : List Str) (pl : List Val) (k : Nat), ∀ e ∈ lay anc pl k fo, BoxOk e.b
  | _, .nil, _, _, _, e, h => by simp [lay] at h
  | _, .cons a b, anc, pl, k, e, h => by
    simp only [lay, List.mem_cons, List.mem_append] at h
    rcases h with rfl | h | h
    · exact boxOk_v _
    · exact a.box _ _ _ e h
    · exact b.box _ _ _ e h
def mapB (f : Bx → Bx) : Fo → Fo
  | .nil => .nil
  | .cons n b w r h cs ts => .cons n (f (bxOf b)).v w r h (mapB f cs) (mapB f ts)
def Ent.mapB (f : Bx → Bx) (e : Ent) : Ent := ⟨e.pl, e.n, (f (bxOf e.b)).v, e.w, e.r, e.h, FW.mapB f e.cs, e.anc⟩
theorem mapB_bx {f : Bx → Bx} : ∀ {fo : Fo}, FoBx (mapB f fo)
  | .nil => .nil
  | .cons n b w r h cs ts => .cons mapB_bx mapB_bx
theorem mapB_lay {f : Bx → Bx} : ∀ (fo : Fo) (anc : List Str) (pl : List Val) (k : Nat), lay anc pl k (mapB f fo) = (lay anc pl k fo).map (Ent.mapB f)
  | .nil, _, _, _ => rfl
  | .cons n b w r h cs ts, anc, pl, k => by
    rw [mapB, lay, lay, mapB_lay cs, mapB_lay ts, List.map_cons, List.map_append]; rfl
theorem mapB_ents {f : Bx → Bx} (fo : Fo) : ents (mapB f fo) = (ents fo).map (Ent.mapB f) := mapB_lay fo [] [] 0
theorem mapB_size {f : Bx → Bx} : ∀ (fo : Fo), (mapB f fo).size = fo.size
  | .nil => rfl
  | .cons n b w r h cs ts => by rw [mapB, Fo.size, Fo.size, mapB_size cs, mapB_size ts]
theorem mapB_deep {f : Bx → Bx} : ∀ (fo : Fo), (mapB f fo).deep = fo.deep
  | .nil => rfl
  | .cons n b w r h cs ts => by rw [mapB, Fo.deep, Fo.deep, mapB_deep cs, mapB_deep ts]
theorem mapB_mapB {f g : Bx → Bx} : ∀ (fo : Fo), mapB f (mapB g fo) = mapB (fun q => f (g q)) fo
  | .nil => rfl
  | .cons n b w r h cs ts => by
    rw [mapB, mapB, mapB, mapB_mapB cs, mapB_mapB ts]; rfl
theorem mapB_id {f : Bx → Bx} (hf : ∀ q, f q = q) : ∀ {fo : Fo}, FoBx fo → mapB f fo = fo
  | _, .nil => rfl
  | _, .cons a b => by rw [mapB, mapB_id hf a, mapB_id hf b, hf]; rfl
theorem mapB_names {f : Bx → Bx} (fo : Fo) : (ents (mapB f fo)).map Ent.n = (ents fo).map Ent.n := by rw [mapB_ents, List.map_map]; rfl
theorem mapB_at {f : Bx → Bx} {x : Str} (es : List Ent) : at_ (es.map (Ent.mapB f)) x = (at_ es x).map (Ent.mapB f) := by
  unfold at_
  rw [List.find?_map]; rfl
theorem mapB_sees {f : Bx → Bx} {o : Bool} : ∀ (es : List Ent) (a b : List Str), sees o (es.map (Ent.mapB f)) a b = sees o es a b
  | [], a, b => rfl
  | e :: es, a, b => by
    rw [List.map_cons, sees, sees]
    show (if (decide (e.w ≠ "free") && (o || decide (e.w = "hidden")) || e.anc.any fun x => decide (x ∈ b)) = true then sees o (es.map (Ent.mapB f)) a (b ++ [e.n]) else sees o (es.map (Ent.mapB f)) (a ++ [e.n]) b) = _
    rw [mapB_sees es, mapB_sees es]
theorem mapB_opens {f : Bx → Bx} (fo : Fo) : opens (mapB f fo) = opens fo := by unfold opens; rw [mapB_ents, mapB_sees]
theorem mapB_wd {f : Bx → Bx} (fo : Fo) (x : Str) : wdOf (ents (mapB f fo)) x = wdOf (ents fo) x := by
  unfold wdOf
  rw [mapB_ents, mapB_at, Option.map_map]; rfl
theorem mapB_rk {f : Bx → Bx} (fo : Fo) (x : Str) : rkOf (ents (mapB f fo)) x = rkOf (ents fo) x := by
  unfold rkOf
  rw [mapB_ents, mapB_at, Option.map_map]; rfl
theorem mapB_why {f : Bx → Bx} (fo : Fo) (e : Ent) : whyV (ents (mapB f fo)) (e.mapB f) = whyV (ents fo) e := by
  unfold whyV firstW
  have e1 : ∀ w : Str, (fun x => decide (wdOf (ents (mapB f fo)) x = w)) = fun x => decide (wdOf (ents fo) x = w) := fun w => by funext x; rw [mapB_wd]
  rw [e1, e1]; rfl
theorem mapB_openE {f : Bx → Bx} (fo : Fo) : openE (mapB f fo) = (openE fo).map (Ent.mapB f) := by
  unfold openE
  rw [mapB_ents, mapB_opens, List.filter_map]; rfl
theorem mapB_mates {f : Bx → Bx} (es : List Ent) (pl : List Val) : matesF (es.map (Ent.mapB f)) pl = (matesF es pl).map (Ent.mapB f) := by
  unfold matesF
  rw [List.filter_map]; rfl
theorem mapB_inner {f : Bx → Bx} (es : List Ent) (pl : List Val) : innerF (es.map (Ent.mapB f)) pl = innerF es pl := by
  unfold innerF
  rw [List.find?_map, Option.map_map]; rfl
theorem quads_mapB {f : Bx → Bx} {fo : Fo} : ∀ (i : Nat) (xs : List Str), quads (ents (mapB f fo)) i xs = quads (ents fo) i xs
  | i, [] => rfl
  | i, x :: xs => by rw [quads, quads, quads_mapB, quad, quad, mapB_rk]
theorem mapB_walk {f : Bx → Bx} (fo : Fo) : walkF (mapB f fo) = walkF fo := by unfold walkF; rw [mapB_opens, quads_mapB]
/-! ### rows -/
theorem foOf_bx (dp : Nat) (rs : List Ro) : FoBx (foOf dp rs) := by
  refine span_ind (M := fun dp rs => FoBx (foOf dp rs)) ?_ ?_ _ dp rs (Nat.le_refl _)
  · intro dp; rw [foOf_nil]; exact .nil
  · intro dp r rs a b; rw [foOf_cons]; exact .cons a b
def Ro.mapB (f : Bx → Bx) (r : Ro) : Ro := ⟨r.d, r.n, f r.b, r.w, r.r, r.h⟩
theorem span_map {f : Bx → Bx} {dp : Nat} (rs : List Ro) : spanA dp (rs.map (Ro.mapB f)) = (spanA dp rs).map (Ro.mapB f) ∧ spanB dp (rs.map (Ro.mapB f)) = (spanB dp rs).map (Ro.mapB f) := by
  unfold spanA spanB
  rw [List.takeWhile_map, List.dropWhile_map]
  exact ⟨rfl, rfl⟩
theorem foOf_map {f : Bx → Bx} (dp : Nat) (rs : List Ro) : foOf dp (rs.map (Ro.mapB f)) = mapB f (foOf dp rs) := by
  refine span_ind (M := fun dp rs => foOf dp (rs.map (Ro.mapB f)) = mapB f (foOf dp rs)) ?_ ?_ _ dp rs (Nat.le_refl _)
  · intro dp
    rw [List.map_nil, foOf_nil]; rfl
  · intro dp r rs a b
    rw [List.map_cons, foOf_cons, foOf_cons, (span_map rs).1, (span_map rs).2, a, b]; rfl
theorem foOf_ok (dp : Nat) (rs : List Ro) : (∀ r ∈ rs, SOk r.n ∧ SOk r.w ∧ ∀ x, r.h = some x → SOk x) → FoOk (foOf dp rs) := by
  refine span_ind (M := fun dp rs => (∀ r ∈ rs, SOk r.n ∧ SOk r.w ∧ ∀ x, r.h = some x → SOk x) → FoOk (foOf dp rs)) ?_ ?_ _ dp rs (Nat.le_refl _)
  · intro dp _; rw [foOf_nil]; exact .nil
  · intro dp r rs a b h
    have h1 : ∀ s ∈ spanA dp rs ++ spanB dp rs, SOk s.n ∧ SOk s.w ∧ ∀ x, s.h = some x → SOk x := by rw [span_app]; exact fun s hs => h s (List.mem_cons_of_mem _ hs)
    obtain ⟨k1, k2, k3⟩ := h r List.mem_cons_self
    rw [foOf_cons]
    exact .cons k1 .box k2 (.optS k3) (a fun s hs => h1 s (List.mem_append_left _ hs)) (b fun s hs => h1 s (List.mem_append_right _ hs))
theorem words3_ok : ∀ x ∈ words3, SOk x := by decide +kernel
theorem RosOk.fo {rs : List Ro} {m dp : Nat} (h : RosOk rs m) : FoOk (foOf dp rs) := foOf_ok dp rs fun r hr => ⟨(h.nm r hr).s, words3_ok _ (h.wd r hr), fun x hx => by
  obtain ⟨k, hk, rfl⟩ := List.getElem_of_mem hr
  obtain ⟨j, s, _, h2, h3, _⟩ := h.hd k _ (List.getElem?_eq_getElem hk) x hx
  rw [← h3]
  exact (h.nm s (List.mem_of_getElem? h2)).s⟩
theorem mapB_ok {f : Bx → Bx} : ∀ {fo : Fo}, FoOk fo → FoOk (mapB f fo)
  | _, .nil => .nil
  | _, .cons h1 h2 h3 h4 a b => .cons h1 .box h3 h4 (mapB_ok a) (mapB_ok b)
/-! ### one side of the four -/
def stepS (i : Nat) (q : Bx) (p : BF) (e : Ent) : BF := if better ((nearsL q (bxOf e.b)).getD i none) p.1 then ((nearsL q (bxOf e.b)).getD i none, some e.n) else p
def sideF (i : Nat) (q : Bx) (ps : List Ent) : BF := ps.foldl (stepS i q) (none, none)
theorem fourL_side {i : Nat} (hi : i < 4) (q : Bx) : ∀ (ps : List Ent) (bf : List BF) (p : BF), bf.length = 4 → bf[i]? = some p → (fourL q ps bf)[i]? = some (ps.foldl (stepS i q) p)
  | [], bf, p, _, h => h
  | e :: ps, bf, p, hl, h => by
    have nl : (nearsL q (bxOf e.b)).length = 4 := rfl
    refine fourL_side hi q ps (updL e.n (nearsL q (bxOf e.b)) bf) (stepS i q p e) (by rw [updL_len (by rw [hl, nl]), hl]) ?_
    unfold updL stepS
    rw [List.getElem?_zipWith, h, List.getElem?_eq_getElem (by rw [nl]; exact hi), List.getD_eq_getElem?_getD, List.getElem?_eq_getElem (by rw [nl]; exact hi)]; rfl
theorem fourV_at {i : Nat} (hi : i < 4) (q : Bx) (ps : List Ent) : (fourV q ps)[i]? = some (optV (sideF i q ps).2) := by
  unfold fourV
  rw [List.getElem?_map, fourL_side hi q ps bf0 (none, none) rfl (by
    match i, hi with
    | 0, _ => rfl
    | 1, _ => rfl
    | 2, _ => rfl
    | 3, _ => rfl)]; rfl
def Near (a : Option (List Int)) : Prop := a = none ∨ ∃ x y z, a = some [x, y, z]
theorem nearO_near {g a b c d : Int} : Near (nearO g a b c d) := by
  unfold nearO Near
  split
  · exact .inl rfl
  · exact .inr ⟨_, _, _, rfl⟩
theorem nears_near {p q : Bx} {i : Nat} : Near ((nearsL p q).getD i none) := by
  match i with
  | 0 => exact nearO_near
  | 1 => exact nearO_near
  | 2 => exact nearO_near
  | 3 => exact nearO_near
  | n + 4 => exact .inl rfl
section
variable {i j : Nat} {f : Bx → Bx} {g : Option (List Int) → Option (List Int)} (hg : ∀ a b, Near a → Near b → better (g a) (g b) = better a b) (hn : g none = none) (h : ∀ p q, (nearsL (f p) (f q)).getD i none = g ((nearsL p q).getD j none))
include hg hn h
theorem side_fold {q : Bx} : ∀ (ps : List Ent) (p : BF), Near p.1 → (ps.map (Ent.mapB f)).foldl (stepS i (f q)) (g p.1, p.2) = (g (ps.foldl (stepS j q) p).1, (ps.foldl (stepS j q) p).2)
  | [], p, _ => rfl
  | e :: ps, p, np => by
    have e1 : stepS i (f q) (g p.1, p.2) (e.mapB f) = (g (stepS j q p e).1, (stepS j q p e).2) := by
      have e2 : (nearsL (f q) (bxOf (e.mapB f).b)).getD i none = g ((nearsL q (bxOf e.b)).getD j none) := h q (bxOf e.b)
      unfold stepS
      rw [e2, hg _ _ nears_near np]
      split <;> rfl
    have n1 : Near (stepS j q p e).1 := by
      unfold stepS
      split
      · exact nears_near
      · exact np
    rw [List.map_cons, List.foldl_cons, List.foldl_cons, e1]
    exact side_fold ps _ n1
theorem side_map {q : Bx} (ps : List Ent) : (sideF i (f q) (ps.map (Ent.mapB f))).2 = (sideF j q ps).2 := by
  unfold sideF
  have := side_fold hg hn h (q := q) ps (none, none) (.inl rfl)
  rw [hn] at this
  rw [this]
end
/-! ### the four ways of turning -/
def turnB (how one other : Int) (q : Bx) : Bx := if how = 0 then ⟨0 - q.x - q.w, q.y, q.w, q.h⟩ else if how = 1 then ⟨q.y, q.x, q.h, q.w⟩ else if how = 2 then ⟨q.x + one, q.y + other, q.w, q.h⟩ else ⟨q.x * one, q.y * one, q.w * one, q.h * one⟩
theorem side_name {i : Nat} {q : Bx} {Q : Str → Prop} : ∀ (ps : List Ent) (p : BF), (∀ x, p.2 = some x → Q x) → (∀ e ∈ ps, Q e.n) → ∀ x, (ps.foldl (stepS i q) p).2 = some x → Q x
  | [], p, h, _, x, hx => h x hx
  | e :: ps, p, h, g, x, hx => by
    refine side_name ps (stepS i q p e) ?_ (fun d hd => g d (List.mem_cons_of_mem _ hd)) x hx
    intro y hy
    unfold stepS at hy
    split at hy
    · cases hy; exact g e List.mem_cons_self
    · exact h y hy
theorem FoOk.names : ∀ {fo : Fo}, FoOk fo → ∀ (anc : List Str) (pl : List Val) (k : Nat), ∀ e ∈ lay anc pl k fo, SOk e.n
  | _, .nil, _, _, _, e, h => by simp [lay] at h
  | _, .cons h1 _ _ _ a b, anc, pl, k, e, h => by
    simp only [lay, List.mem_cons, List.mem_append] at h
    rcases h with rfl | h | h
    · exact h1
    · exact a.names _ _ _ e h
    · exact b.names _ _ _ e h
theorem side_pv {i d : Nat} {q : Bx} {fo : Fo} (h : FoOk fo) {pl : List Val} : Pv (optV (sideF i q (matesF (openE fo) pl)).2) d :=
  .optS fun x hx => side_name (Q := SOk) _ (none, none) (fun _ z => nomatch z) (fun e he => h.names [] [] 0 e (List.mem_filter.mp (List.mem_filter.mp he).1).1) x hx
end FW

set_option Elab.async false
set_option linter.all false
set_option maxRecDepth 100000
/-! What fits: parts, heads, musts. -/
namespace FW
open PySem PySem.Spec PyProof.Rows L2
theorem at_name {es : List Ent} {x : Str} {e : Ent} (h : at_ es x = some e) : e ∈ es ∧ e.n = x := by
  refine ⟨List.mem_of_find?_eq_some h, ?_⟩
  have q := List.find?_some (show List.find? (fun e : Ent => decide (e.n = x)) es = some e from h)
  exact of_decide_eq_true q
inductive FoP : Fo → Prop
  | nil : FoP .nil
  | cons {n w : Str} {r : Int} {q : Bx} {h : Option Str} {cs ts : Fo} : NameOk n → 1 ≤ q.w → 1 ≤ q.h → w ∈ words3 → 0 ≤ r → (∀ x, h = some x → NameOk x) → FoP cs → FoP ts → FoP (.cons n q.v w r (optV h) cs ts)
theorem FoP.bx : ∀ {fo : Fo}, FoP fo → FoBx fo
  | _, .nil => .nil
  | _, .cons _ _ _ _ _ _ a b => .cons a.bx b.bx
theorem FoP.ok : ∀ {fo : Fo}, FoP fo → FoOk fo
  | _, .nil => .nil
  | _, .cons h1 _ _ h2 _ h3 a b => .cons h1.s .box (words3_ok _ h2) (.optS fun x hx => (h3 x hx).s) a.ok b.ok
theorem FoP.ent : ∀ {fo : Fo}, FoP fo → ∀ (anc : List Str) (pl : List Val) (k : Nat), ∀ e ∈ lay anc pl k fo, NameOk e.n ∧ e.w ∈ words3 ∧ 0 ≤ e.r ∧ (e.h = .non ∨ ∃ x, e.h = .str x ∧ NameOk x) ∧ FoP e.cs
  | _, .nil, _, _, _, e, h => by simp [lay] at h
  | _, .cons (h := hh) h1 _ _ h2 h3 h4 a b, anc, pl, k, e, h => by
    simp only [lay, List.mem_cons, List.mem_append] at h
    rcases h with rfl | h | h
    · refine ⟨h1, h2, h3, ?_, a⟩
      cases hh with
      | none => exact .inl rfl
      | some x => exact .inr ⟨x, rfl, h4 x rfl⟩
    · exact a.ent _ _ _ e h
    · exact b.ent _ _ _ e h
/-- the names of the outer ones -/
def kids : Fo → List Str
  | .nil => []
  | .cons n _ _ _ _ _ ts => n :: kids ts
theorem kids_len : ∀ fo : Fo, (kids fo).length ≤ fo.size
  | .nil => Nat.le_refl _
  | .cons n b w r h cs ts => by have := kids_len ts; rw [kids, Fo.size, List.length_cons]; omega
theorem kids_lay {anc : List Str} {pl : List Val} : ∀ {fo : Fo} {k : Nat} {c : Str}, c ∈ kids fo → ∃ d ∈ lay anc pl k fo, d.n = c ∧ d.anc = anc
  | .cons n b w r h cs ts, k, c, hc => by
    rw [kids] at hc
    rcases List.mem_cons.mp hc with rfl | hc
    · exact ⟨_, List.mem_cons_self, rfl, rfl⟩
    · obtain ⟨d, h1, h2, h3⟩ := kids_lay (anc := anc) (pl := pl) (k := k + 1) hc
      exact ⟨d, by rw [lay]; exact List.mem_cons_of_mem _ (List.mem_append_right _ h1), h2, h3⟩
theorem kid_ent : ∀ {fo : Fo} {anc : List Str} {pl : List Val} {k : Nat} {e : Ent} {c : Str}, e ∈ lay anc pl k fo → c ∈ kids e.cs → ∃ d ∈ lay anc pl k fo, d.n = c ∧ d.anc = e.anc ++ [e.n]
  | .nil, _, _, _, e, c, h, _ => by simp [lay] at h
  | .cons n b w r hh cs ts, anc, pl, k, e, c, h, hc => by
    simp only [lay, List.mem_cons, List.mem_append] at h ⊢
    rcases h with rfl | h | h
    · obtain ⟨d, h1, h2, h3⟩ := kids_lay (anc := anc ++ [n]) (pl := pl ++ [.int (k : Nat)]) (k := 0) hc
      exact ⟨d, .inr (.inl h1), h2, h3⟩
    · obtain ⟨d, h1, h2⟩ := kid_ent h hc
      exact ⟨d, .inr (.inl h1), h2⟩
    · obtain ⟨d, h1, h2⟩ := kid_ent h hc
      exact ⟨d, .inr (.inr h1), h2⟩
theorem ent_kid : ∀ {fo : Fo} {anc : List Str} {pl : List Val} {k : Nat} {d : Ent}, d ∈ lay anc pl k fo → (d.anc = anc ∧ d.n ∈ kids fo) ∨ ∃ e ∈ lay anc pl k fo, d.n ∈ kids e.cs ∧ d.anc = e.anc ++ [e.n]
  | .nil, _, _, _, d, h => by simp [lay] at h
  | .cons n b w r hh cs ts, anc, pl, k, d, h => by
    simp only [lay, List.mem_cons, List.mem_append] at h
    rcases h with rfl | h | h
    · exact .inl ⟨rfl, List.mem_cons_self⟩
    · rcases ent_kid h with ⟨h1, h2⟩ | ⟨e, h1, h2⟩
      · exact .inr ⟨⟨pl ++ [.int (k : Nat)], n, b, w, r, hh, cs, anc⟩, by rw [lay]; exact List.mem_cons_self, h2, h1⟩
      · exact .inr ⟨e, by rw [lay]; exact List.mem_cons_of_mem _ (List.mem_append_left _ h1), h2⟩
    · rcases ent_kid h with ⟨h1, h2⟩ | ⟨e, h1, h2⟩
      · exact .inl ⟨h1, by rw [kids]; exact List.mem_cons_of_mem _ h2⟩
      · exact .inr ⟨e, by rw [lay]; exact List.mem_cons_of_mem _ (List.mem_append_right _ h1), h2⟩
/-- one must be told ahead of the other -/
def Must (es : List Ent) (a b : Str) : Prop := ∃ e ∈ es, e.n = b ∧ (e.anc.getLast? = some a ∨ e.h = .str a)
def insD (l : List (Str × Str)) (p : Str × Str) : List (Str × Str) := if p ∈ l then l else l ++ [p]
theorem insD_mem {l : List (Str × Str)} {p q : Str × Str} : q ∈ insD l p ↔ q ∈ l ∨ q = p := by
  unfold insD
  split
  · rename_i h
    exact ⟨.inl, fun z => z.elim id fun z => by rw [z]; exact h⟩
  · simp
theorem insD_len {l : List (Str × Str)} {p : Str × Str} : (insD l p).length ≤ l.length + 1 := by
  unfold insD
  split <;> simp
def mk2 (p : Str × Str) : Val × Val := (.tup [.str p.1, .str p.2], .bl true)
theorem mk2_put (l : List (Str × Str)) (p : Str × Str) : dput (l.map mk2) (mk2 p).1 (.bl true) = (insD l p).map mk2 := by
  have e : ((l.map mk2).any fun q => decide (q.1 = (mk2 p).1)) = decide (p ∈ l) := by
    induction l with
    | nil => simp
    | cons a l ih =>
      rw [List.map_cons, List.any_cons, ih]
      have : ((mk2 a).1 = (mk2 p).1) ↔ (p = a) := by
        simp [mk2]
        constructor
        · rintro ⟨h1, h2⟩; exact Prod.ext h1.symm h2.symm
        · rintro rfl; exact ⟨rfl, rfl⟩
      by_cases h : p = a
      · simp [h]
      · simp [this, h]
  unfold dput insD
  rw [e]
  by_cases h : p ∈ l
  · rw [if_pos (decide_eq_true h), if_pos h, List.map_map]
    refine List.map_congr_left fun a _ => ?_
    show (if (mk2 a).1 = (mk2 p).1 then ((mk2 a).1, Val.bl true) else mk2 a) = mk2 a
    split <;> rfl
  · rw [if_neg (by simpa using h), if_neg h, List.map_append]; rfl
theorem mk2_suits (l : List (Str × Str)) (p : Str × Str) : suits (l.map mk2) (mk2 p).1 = true := by
  have : allT (l.map mk2) = true := by
    unfold allT
    rw [List.all_eq_true]
    intro q hq
    obtain ⟨a, _, rfl⟩ := List.mem_map.mp hq
    rfl
  unfold suits
  rw [this]
  have : keyT (mk2 p).1 = true := rfl
  rw [this]
  simp
def headO : Val → Option Str
  | .str x => some x
  | _ => none
def mustsK (n : Str) (l : List (Str × Str)) (ks : List Str) : List (Str × Str) := ks.foldl (fun l c => insD l (n, c)) l
def mustsE (l : List (Str × Str)) (e : Ent) : List (Str × Str) := match headO e.h with
  | none => mustsK e.n l (kids e.cs)
  | some x => insD (mustsK e.n l (kids e.cs)) (x, e.n)
def mustsF (es : List Ent) : List (Str × Str) := es.foldl mustsE []
theorem mustsK_mem {n : Str} {q : Str × Str} : ∀ {ks : List Str} {l : List (Str × Str)}, q ∈ mustsK n l ks ↔ q ∈ l ∨ ∃ c ∈ ks, q = (n, c)
  | [], l => by simp [mustsK]
  | c :: ks, l => by
    show q ∈ mustsK n (insD l (n, c)) ks ↔ _
    rw [mustsK_mem, insD_mem]
    simp [or_assoc]
theorem mustsK_len {n : Str} : ∀ {ks : List Str} {l : List (Str × Str)}, (mustsK n l ks).length ≤ l.length + ks.length
  | [], l => by simp [mustsK]
  | c :: ks, l => by
    have h1 := mustsK_len (n := n) (ks := ks) (l := insD l (n, c))
    have h2 := insD_len (l := l) (p := (n, c))
    show (mustsK n (insD l (n, c)) ks).length ≤ _
    rw [List.length_cons]; omega
theorem mustsE_mem {l : List (Str × Str)} {e : Ent} {q : Str × Str} : q ∈ mustsE l e ↔ q ∈ l ∨ (∃ c ∈ kids e.cs, q = (e.n, c)) ∨ ∃ x, e.h = .str x ∧ q = (x, e.n) := by
  unfold mustsE
  cases hh : e.h <;> simp only [headO] <;> first
    | (rw [insD_mem, mustsK_mem]; simp [or_assoc, eq_comm])
    | (rw [mustsK_mem]; simp)
theorem mustsF_mem {es : List Ent} {q : Str × Str} : q ∈ mustsF es ↔ ∃ e ∈ es, (∃ c ∈ kids e.cs, q = (e.n, c)) ∨ ∃ x, e.h = .str x ∧ q = (x, e.n) := by
  have gen : ∀ (es : List Ent) (l : List (Str × Str)), q ∈ es.foldl mustsE l ↔ q ∈ l ∨ ∃ e ∈ es, (∃ c ∈ kids e.cs, q = (e.n, c)) ∨ ∃ x, e.h = .str x ∧ q = (x, e.n) := by
    intro es
    induction es with
    | nil => intro l; simp
    | cons e es ih =>
      intro l
      rw [List.foldl_cons, ih, mustsE_mem]
      simp [or_assoc]
  unfold mustsF
  rw [gen]
  simp
theorem musts_iff {fo : Fo} {a b : Str} : (a, b) ∈ mustsF (ents fo) ↔ Must (ents fo) a b := by
  rw [mustsF_mem]
  constructor
  · rintro ⟨e, he, ⟨c, hc, h⟩ | ⟨x, hx, h⟩⟩
    · cases h
      obtain ⟨d, h1, h2, h3⟩ := kid_ent he hc
      exact ⟨d, h1, h2, .inl (by rw [h3]; simp)⟩
    · cases h
      exact ⟨e, he, rfl, .inr hx⟩
  · rintro ⟨e, he, rfl, h | h⟩
    · rcases ent_kid he with ⟨h1, _⟩ | ⟨d, h1, h2, h3⟩
      · rw [h1] at h; cases h
      · rw [h3] at h
        simp at h
        exact ⟨d, h1, .inl ⟨e.n, h2, by rw [h]⟩⟩
    · exact ⟨e, he, .inr ⟨a, h, rfl⟩⟩
theorem kids_sum {fo : Fo} : ∀ (anc : List Str) (pl : List Val) (k : Nat), ((lay anc pl k fo).map fun e => (kids e.cs).length).sum + (kids fo).length = fo.size := by
  induction fo with
  | nil => intros; rfl
  | cons n b w r h cs ts ic it =>
    intro anc pl k
    have h1 := ic (anc ++ [n]) (pl ++ [.int (k : Nat)]) 0
    have h2 := it anc pl (k + 1)
    simp only [lay, List.map_cons, List.map_append, List.sum_cons, List.sum_append, kids, List.length_cons, Fo.size]
    omega
theorem mustsF_len {fo : Fo} : (mustsF (ents fo)).length ≤ 2 * fo.size := by
  have gen : ∀ (es : List Ent) (l : List (Str × Str)), (es.foldl mustsE l).length ≤ l.length + (es.map fun e => (kids e.cs).length).sum + es.length := by
    intro es
    induction es with
    | nil => intro l; simp
    | cons e es ih =>
      intro l
      have h1 := ih (mustsE l e)
      have h2 : (mustsE l e).length ≤ l.length + (kids e.cs).length + 1 := by
        have := mustsK_len (n := e.n) (ks := kids e.cs) (l := l)
        unfold mustsE
        split
        · omega
        · rename_i x _
          have := insD_len (l := mustsK e.n l (kids e.cs)) (p := (x, e.n))
          omega
      rw [List.foldl_cons, List.map_cons, List.sum_cons, List.length_cons]
      omega
  have h1 := gen (ents fo) []
  have h2 := kids_sum (fo := fo) [] [] 0
  have h3 : (ents fo).length = fo.size := lay_len _ _ _ _
  unfold mustsF
  simp at h1
  have h4 : ((lay [] [] 0 fo).map fun e => (kids e.cs).length).sum = ((ents fo).map fun e => (kids e.cs).length).sum := rfl
  omega
/-- what stands ahead of a name -/
def ahd (ms : List (Str × Str)) (x : Str) : List Str := (ms.filter fun p => decide (p.2 = x)).map (·.1)
theorem ahd_mem {ms : List (Str × Str)} {a x : Str} : a ∈ ahd ms x ↔ (a, x) ∈ ms := by
  unfold ahd
  constructor
  · intro h
    obtain ⟨p, hp, rfl⟩ := List.mem_map.mp h
    obtain ⟨h1, h2⟩ := List.mem_filter.mp hp
    have h2 : p.2 = x := of_decide_eq_true h2
    rw [← h2]; exact h1
  · intro h
    exact List.mem_map.mpr ⟨(a, x), List.mem_filter.mpr ⟨h, by simp⟩, rfl⟩
theorem ahd_snoc {ms : List (Str × Str)} {p : Str × Str} {x : Str} : ahd (ms ++ [p]) x = if p.2 = x then ahd ms x ++ [p.1] else ahd ms x := by
  unfold ahd
  rw [List.filter_append, List.map_append]
  by_cases h : p.2 = x
  · simp [h]
  · simp [h]
/-- all that checked asks -/
structure Fits (fo : Fo) : Prop where
  p : FoP fo
  dp : fo.deep ≤ 5
  sz : fo.size ≤ 40
  nd : ((ents fo).map Ent.n).Nodup
  hd : ∀ e ∈ ents fo, ∀ x, e.h = .str x → ∃ d, at_ (ents fo) x = some d ∧ x ≠ e.n ∧ x ∉ e.anc ∧ e.n ∉ d.anc
  ac : ∃ rk : Str → Nat, ∀ a b, Must (ents fo) a b → rk a < rk b
theorem Must.names {fo : Fo} (hd : ∀ e ∈ ents fo, ∀ x, e.h = .str x → ∃ d, at_ (ents fo) x = some d ∧ x ≠ e.n ∧ x ∉ e.anc ∧ e.n ∉ d.anc) {a b : Str} (h : Must (ents fo) a b) : a ∈ (ents fo).map Ent.n ∧ b ∈ (ents fo).map Ent.n := by
  obtain ⟨e, he, rfl, h | h⟩ := h
  · exact ⟨ents_anc_mem he (List.mem_of_getLast? h), List.mem_map.mpr ⟨e, he, rfl⟩⟩
  · obtain ⟨d, h1, _⟩ := hd e he a h
    obtain ⟨h2, h3⟩ := at_name h1
    exact ⟨List.mem_map.mpr ⟨d, h2, h3⟩, List.mem_map.mpr ⟨e, he, rfl⟩⟩
/-- of a right row of some left ones there is one with none of these ahead -/
theorem least_free {rk : Str → Nat} {ms : List (Str × Str)} (h : ∀ p ∈ ms, rk p.1 < rk p.2) : ∀ (xs : List Str), xs ≠ [] → ∃ x ∈ xs, ∀ a ∈ ahd ms x, a ∉ xs := by
  intro xs hx
  obtain ⟨x, hx1, hx2⟩ : ∃ x ∈ xs, ∀ y ∈ xs, rk x ≤ rk y := by
    induction xs with
    | nil => exact absurd rfl hx
    | cons y ys ih =>
      by_cases hy : ys = []
      · subst hy
        exact ⟨y, List.mem_cons_self, fun z hz => by rw [List.mem_singleton.mp hz]; exact Nat.le_refl _⟩
      · obtain ⟨x, h1, h2⟩ := ih hy
        by_cases hle : rk x ≤ rk y
        · exact ⟨x, List.mem_cons_of_mem _ h1, fun z hz => (List.mem_cons.mp hz).elim (fun e => by rw [e]; exact hle) (h2 z)⟩
        · exact ⟨y, List.mem_cons_self, fun z hz => (List.mem_cons.mp hz).elim (fun e => by rw [e]; exact Nat.le_refl _) fun e => by have := h2 z e; omega⟩
  refine ⟨x, hx1, fun a ha hin => ?_⟩
  have := h (a, x) (ahd_mem.mp ha)
  have := hx2 a hin
  simp at *
  omega
end FW
namespace FW
open PySem PySem.Spec PyProof.Rows L2
/-! ### dicts of names -/
/-- a dict of names, each with a list -/
def dicL (L : List (Str × Addr)) : List (Val × Val) := L.map fun p => (.str p.1, .ref p.2)
theorem dicL_allK (L : List (Str × Addr)) : allK (dicL L) = true := by
  unfold allK dicL
  rw [List.all_eq_true]
  intro q hq
  obtain ⟨p, _, rfl⟩ := List.mem_map.mp hq
  rfl
theorem dicL_suits (L : List (Str × Addr)) (x : Str) : suits (dicL L) (.str x) = true := by
  unfold suits
  rw [dicL_allK]; rfl
theorem dicL_get {L : List (Str × Addr)} {x : Str} {a : Addr} (nd : (L.map Prod.fst).Nodup) (h : (x, a) ∈ L) : dget (dicL L) (.str x) = some (.ref a) := by
  induction L with
  | nil => cases h
  | cons p L ih =>
    rw [List.map_cons, List.nodup_cons] at nd
    unfold dget dicL
    rw [List.map_cons, List.find?_cons]
    rcases List.mem_cons.mp h with rfl | h
    · simp
    · have : p.1 ≠ x := fun z => nd.1 (List.mem_map.mpr ⟨(x, a), h, z.symm⟩)
      have e : decide (Val.str p.1 = Val.str x) = false := by simpa using this
      rw [e]
      exact ih nd.2 h
theorem dicL_some {L : List (Str × Addr)} {x : Str} : (dget (dicL L) (.str x)).isSome = decide (x ∈ L.map Prod.fst) := by
  induction L with
  | nil => rfl
  | cons p L ih =>
    unfold dget dicL at ih ⊢
    rw [List.map_cons, List.find?_cons, List.map_cons]
    by_cases h : p.1 = x
    · have e : decide (Val.str p.1 = Val.str x) = true := by simpa using h
      rw [e]; simp [h]
    · have e : decide (Val.str p.1 = Val.str x) = false := by simpa using h
      rw [e]
      have hb : (x == p.1) = false := by
        rw [beq_eq_false_iff_ne]
        exact fun z => h z.symm
      simpa [hb] using ih
theorem dicL_put {L : List (Str × Addr)} {x : Str} {a : Addr} (h : x ∉ L.map Prod.fst) : dput (dicL L) (.str x) (.ref a) = dicL (L ++ [(x, a)]) := by
  unfold dput
  rw [if_neg]
  · unfold dicL; simp
  · intro z
    obtain ⟨p, hp, hq⟩ := List.any_eq_true.mp z
    unfold dicL at hp
    obtain ⟨q, hq2, rfl⟩ := List.mem_map.mp hp
    have : q.1 = x := by simpa using hq
    exact h (List.mem_map.mpr ⟨q, hq2, this⟩)
theorem dicL_drop {L : List (Str × Addr)} {x : Str} : ddrop (dicL L) (.str x) = dicL (L.filter fun p => decide (p.1 ≠ x)) := by
  unfold ddrop dicL
  rw [List.filter_map]
  congr 1
  refine List.filter_congr fun p _ => ?_
  simp
theorem dicL_len (L : List (Str × Addr)) : (dicL L).length = L.length := List.length_map _
theorem dicL_keys (L : List (Str × Addr)) : (dicL L).map (·.1) = (L.map Prod.fst).map Val.str := by unfold dicL; rw [List.map_map, List.map_map]; rfl
/-- the names' own lists -/
def LAt (S : Sto) (L : List (Str × Addr)) (f : Str → List Str) : Prop := ∀ p ∈ L, S p.2 = some (.lst ((f p.1).map .str))
/-- entries' names, with the lists of what is around -/
inductive EntsL (S : Sto) : List (Str × Addr) → List Ent → Prop
  | nil : EntsL S [] []
  | cons {e : Ent} {a : Addr} {L : List (Str × Addr)} {es : List Ent} : S a = some (.lst (e.anc.map .str)) → EntsL S L es → EntsL S ((e.n, a) :: L) (e :: es)
theorem EntsL.fst {S : Sto} : ∀ {L : List (Str × Addr)} {es : List Ent}, EntsL S L es → L.map Prod.fst = es.map Ent.n
  | _, _, .nil => rfl
  | _, _, .cons _ t => by rw [List.map_cons, List.map_cons, t.fst]
theorem EntsL.ext {S S' : Sto} (x : Ext S S') : ∀ {L : List (Str × Addr)} {es : List Ent}, EntsL S L es → EntsL S' L es
  | _, _, .nil => .nil
  | _, _, .cons h t => .cons (x _ _ h) (t.ext x)
theorem EntsL.snoc {S : Sto} {e : Ent} {a : Addr} (h : S a = some (.lst (e.anc.map .str))) : ∀ {L : List (Str × Addr)} {es : List Ent}, EntsL S L es → EntsL S (L ++ [(e.n, a)]) (es ++ [e])
  | _, _, .nil => .cons h .nil
  | _, _, .cons g t => .cons g (t.snoc h)
theorem EntsL.at {S : Sto} {x : Str} {e : Ent} : ∀ {L : List (Str × Addr)} {es : List Ent}, EntsL S L es → at_ es x = some e → ∃ a, dget (dicL L) (.str x) = some (.ref a) ∧ S a = some (.lst (e.anc.map .str))
  | _, _, .nil, h => by cases h
  | _, _, .cons (e := d) (a := a) h t, g => by
    unfold at_ at g
    rw [List.find?_cons] at g
    unfold dget dicL
    rw [List.map_cons, List.find?_cons]
    by_cases hd : d.n = x
    · rw [decide_eq_true hd] at g
      cases g
      have e1 : decide (Val.str e.n = Val.str x) = true := by simpa using hd
      simp only [e1]
      exact ⟨a, rfl, h⟩
    · rw [decide_eq_false hd] at g
      have e1 : decide (Val.str d.n = Val.str x) = false := by simpa using hd
      simp only [e1]
      exact t.at g
def strV (g : Str → Val) : Val → Option Val
  | .str z => some (g z)
  | _ => none
theorem str_fm {g : Str → Val} : ∀ {xs : List Str}, (xs.map Val.str).filterMap (strV g) = xs.map g
  | [] => rfl
  | x :: xs => by rw [List.map_cons, List.filterMap_cons_some (f := strV g) (a := .str x) (b := g x) rfl, str_fm]; rfl
theorem bls_map {α : Type} {f : α → Bool} {xs : List α} : (xs.map fun x => Val.bl (f x)) = (xs.map f).map Val.bl := by rw [List.map_map]; rfl
end FW
namespace FW
open PySem PySem.Spec PyProof.Rows L2
/-! ### hanging by waiting lists is hanging by spans -/
def hangsR : List Ro → Nat → Fo
  | [] => fun _ => .nil
  | r :: rs => hangF (hangsR rs) r.d ⟨r.n, r.w, r.r⟩ r.b.v (optV r.h)
def seg (d : Nat) (rs : List Ro) : List Ro := spanB d (rs.takeWhile fun s => decide (d ≤ s.d))
theorem tw_hd {d : Nat} {rs : List Ro} (h : ∀ r t, rs = r :: t → r.d < d) : (rs.takeWhile fun s => decide (d ≤ s.d)) = [] := by
  cases rs with
  | nil => rfl
  | cons r t =>
    have := h r t rfl
    rw [List.takeWhile_cons, if_neg (by simp; omega)]
theorem spanB_self {d : Nat} {rs : List Ro} (h : ∀ r t, rs = r :: t → r.d ≤ d) : spanB d rs = rs := by
  cases rs with
  | nil => rfl
  | cons r t =>
    have := h r t rfl
    unfold spanB
    rw [List.dropWhile_cons, if_neg (by simp; omega)]
theorem takeW_takeW {α : Type} {p q : α → Bool} (h : ∀ s, p s = true → q s = true) : ∀ l : List α, (l.takeWhile q).takeWhile p = l.takeWhile p
  | [] => rfl
  | s :: l => by
    by_cases hq : q s = true
    · rw [List.takeWhile_cons, if_pos hq, List.takeWhile_cons, List.takeWhile_cons, takeW_takeW h l]
    · rw [List.takeWhile_cons, if_neg hq, List.takeWhile_cons, if_neg fun z => hq (h s z)]; rfl
theorem hangs_seg : ∀ {rs : List Ro} {k : Nat}, WfR k (rs.map Ro.rw) → ∀ d, hangsR rs d = foOf d (seg d rs)
  | [], _, _, d => by
    show Fo.nil = foOf d (seg d [])
    rw [show seg d [] = [] from rfl, foOf_nil]
  | r :: rs, k, h, d => by
    have ih := hangs_seg (rs := rs) (k := r.d + 1) h.2
    have hd : ∀ s t, rs = s :: t → s.d ≤ r.d + 1 := fun s t e => by
      have h2 := h.2
      rw [e] at h2
      exact h2.1
    unfold hangsR hangF
    by_cases h1 : d = r.d
    · subst h1
      rw [if_pos rfl]
      have e1 : seg r.d (r :: rs) = r :: (rs.takeWhile fun s => decide (r.d ≤ s.d)) := by
        unfold seg
        rw [List.takeWhile_cons, if_pos (by simp), spanB_self fun s t e => by cases e; exact Nat.le_refl _]
      rw [e1, foOf_cons, ih, ih]
      have e2 : spanA r.d (rs.takeWhile fun s => decide (r.d ≤ s.d)) = seg (r.d + 1) rs := by
        have ea : spanA r.d (rs.takeWhile fun s => decide (r.d ≤ s.d)) = rs.takeWhile fun s => decide (r.d + 1 ≤ s.d) := by
          unfold spanA
          exact takeW_takeW (fun s h => by simp at h ⊢; omega) rs
        rw [ea]
        unfold seg
        rw [spanB_self]
        intro s t e
        cases rs with
        | nil => cases e
        | cons u v =>
          rw [List.takeWhile_cons] at e
          split at e
          · cases e
            exact hd _ _ rfl
          · cases e
      rw [e2]; rfl
    · rw [if_neg h1]
      by_cases h2 : d = r.d + 1
      · rw [if_pos h2]
        have e1 : seg d (r :: rs) = [] := by
          unfold seg
          rw [tw_hd (fun s t e => by cases e; omega)]; rfl
        rw [e1, foOf_nil]
      · rw [if_neg h2, ih]
        by_cases h3 : r.d < d
        · have e1 : seg d (r :: rs) = [] := by
            unfold seg
            rw [tw_hd (fun s t e => by cases e; omega)]; rfl
          have e2 : seg d rs = [] := by
            unfold seg
            rw [tw_hd (fun s t e => by have := hd s t e; omega)]; rfl
          rw [e1, e2]
        · have e1 : seg d (r :: rs) = seg d rs := by
            unfold seg
            rw [List.takeWhile_cons, if_pos (by simp; omega)]
            unfold spanB
            rw [List.dropWhile_cons, if_pos (by simp; omega)]
          rw [e1]
theorem hangs_is {rs : List Ro} (h : WfR 0 (rs.map Ro.rw)) : hangsR rs 0 = foOf 0 rs := by
  rw [hangs_seg h]
  congr 1
  unfold seg
  have e : (rs.takeWhile fun s => decide (0 ≤ s.d)) = rs := by
    induction rs with
    | nil => rfl
    | cons r rs ih =>
      rw [List.takeWhile_cons, if_pos (by simp)]
      congr 1
      have : ∀ (l : List Ro), (l.takeWhile fun s => decide (0 ≤ s.d)) = l := by
        intro l
        induction l with
        | nil => rfl
        | cons a l ih => rw [List.takeWhile_cons, if_pos (by simp), ih]
      exact this rs
  rw [e]
  refine spanB_self fun r t e => ?_
  rw [e] at h
  exact h.1
theorem hangs_len : ∀ (rs : List Ro) (d : Nat), (hangsR rs d).vs.length ≤ rs.length
  | [], d => Nat.zero_le _
  | r :: rs, d => by
    have h1 := hangs_len rs r.d
    have h2 := hangs_len rs d
    unfold hangsR hangF
    split
    · simp [Fo.vs]; omega
    · split
      · simp [Fo.vs]
      · simp; omega
/-! ### right rows fit -/
theorem key_list {α β : Type} {f : α → β} : ∀ {l : List α} {m : List β}, l.map f = m → l.length = m.length := fun h => by rw [← h, List.length_map]
theorem ent_at {rs : List Ro} {k : Nat} {r : Ro} (h : rs[k]? = some r) : ∃ e, (ents (shOf rs))[k]? = some e ∧ e.key = r.key := by
  have q := congrArg (fun l : List (Str × Val × Str × Int × Val) => l[k]?) (foOf_keys 0 rs [] [] 0)
  simp only [List.getElem?_map, h, Option.map_some] at q
  cases e : (ents (shOf rs))[k]? with
  | none =>
    have e' : (lay [] [] 0 (foOf 0 rs))[k]? = none := e
    rw [e'] at q; cases q
  | some d =>
    have e' : (lay [] [] 0 (foOf 0 rs))[k]? = some d := e
    rw [e'] at q
    exact ⟨d, rfl, Option.some.inj q⟩
theorem Ents.get : ∀ {es : List Ent} {ls : List Line} {k : Nat} {e : Ent}, Ents es ls → es[k]? = some e → ∃ l, ls[k]? = some l ∧ EntLine e l
  | _, _, k, e, .nil, h => by simp at h
  | _, _, 0, e, .cons h t, g => by simp at g; subst g; exact ⟨_, rfl, h⟩
  | _, _, k + 1, e, .cons h t, g => by
    obtain ⟨l, h1, h2⟩ := t.get (k := k) (e := e) (by simpa using g)
    exact ⟨l, by simpa using h1, h2⟩
/-- what is around a row's part, by numbers -/
theorem ent_anc {rs : List Ro} (wf : WfR 0 (rs.map Ro.rw)) {k : Nat} {e : Ent} (h : (ents (shOf rs))[k]? = some e) : e.anc = (abv (rds rs) k).map fun j => (rs.map Ro.n).getD j "" := by
  obtain ⟨l, h1, q, t, h2, h3, h4, h5, h6⟩ := ((shOf_rep wf).ents [] 0).get h
  have hlt : k < rs.length := by
    have := (List.getElem?_eq_some_iff.mp h1).1
    rw [lines_len, List.length_map] at this; exact this
  have hk : (rs.map Ro.rw)[k]? = some rs[k].rw := by rw [List.getElem?_map, List.getElem?_eq_getElem hlt]; rfl
  have := line_abv wf hk
  rw [h1] at this
  have e1 := Option.some.inj this
  have ds : dsOf (rs.map Ro.rw) = rds rs := by unfold dsOf rds; rw [List.map_map]; rfl
  rw [ds, List.map_append, h2] at e1
  have e2 := (List.append_inj' e1 rfl).1
  rw [h6, e2, List.map_map]
  refine List.map_congr_left fun j _ => ?_
  show (nmAt (rs.map Ro.rw) j).n = _
  unfold nmAt
  rw [List.map_map, List.getD_eq_getElem?_getD, List.getD_eq_getElem?_getD, List.getElem?_map, List.getElem?_map]
  cases rs[j]? <;> rfl
theorem foOf_p (dp : Nat) (rs : List Ro) : (∀ r ∈ rs, NameOk r.n ∧ 1 ≤ r.b.w ∧ 1 ≤ r.b.h ∧ r.w ∈ words3 ∧ 0 ≤ r.r ∧ ∀ x, r.h = some x → NameOk x) → FoP (foOf dp rs) := by
  refine span_ind (M := fun dp rs => (∀ r ∈ rs, NameOk r.n ∧ 1 ≤ r.b.w ∧ 1 ≤ r.b.h ∧ r.w ∈ words3 ∧ 0 ≤ r.r ∧ ∀ x, r.h = some x → NameOk x) → FoP (foOf dp rs)) ?_ ?_ _ dp rs (Nat.le_refl _)
  · intro dp _; rw [foOf_nil]; exact .nil
  · intro dp r rs a b h
    have h1 : ∀ s ∈ spanA dp rs ++ spanB dp rs, NameOk s.n ∧ 1 ≤ s.b.w ∧ 1 ≤ s.b.h ∧ s.w ∈ words3 ∧ 0 ≤ s.r ∧ ∀ x, s.h = some x → NameOk x := by rw [span_app]; exact fun s hs => h s (List.mem_cons_of_mem _ hs)
    obtain ⟨k1, k2, k3, k4, k5, k6⟩ := h r List.mem_cons_self
    rw [foOf_cons]
    exact .cons k1 k2 k3 k4 k5 k6 (a fun s hs => h1 s (List.mem_append_left _ hs)) (b fun s hs => h1 s (List.mem_append_right _ hs))
theorem getD_at {xs : List Str} {j : Nat} (h : j < xs.length) : xs.getD j "" = xs[j] := by rw [List.getD_eq_getElem?_getD, List.getElem?_eq_getElem h]; rfl
theorem nd_at {xs : List Str} (nd : xs.Nodup) {i j : Nat} (hi : i < xs.length) (hj : j < xs.length) (h : xs[i] = xs[j]) : i = j :=
  (List.getElem?_inj hi nd).mp (by rw [List.getElem?_eq_getElem hi, List.getElem?_eq_getElem hj, h])
/-- right rows, hung, fit -/
theorem RosOk.fits {rs : List Ro} (h : RosOk rs 40) : Fits (shOf rs) := by
  have nd : ((ents (shOf rs)).map Ent.n).Nodup := by rw [shOf_names]; exact h.nd
  have nl : (rs.map Ro.n).length = rs.length := List.length_map _
  have el : (ents (shOf rs)).length = rs.length := by have := congrArg List.length (shOf_names (rs := rs)); simpa using this
  have num : ∀ e ∈ ents (shOf rs), ∃ (k : Nat) (r : Ro), rs[k]? = some r ∧ (ents (shOf rs))[k]? = some e ∧ e.key = r.key := fun e he => by
    obtain ⟨k, hk, rfl⟩ := List.getElem_of_mem he
    obtain ⟨d, h1, h2⟩ := ent_at (List.getElem?_eq_getElem (l := rs) (show k < rs.length by omega))
    rw [List.getElem?_eq_getElem hk] at h1
    cases h1
    exact ⟨k, _, List.getElem?_eq_getElem (by omega), List.getElem?_eq_getElem hk, h2⟩
  have anc_lt : ∀ k e, (ents (shOf rs))[k]? = some e → ∀ x ∈ e.anc, ∃ j, j < k ∧ j ∈ abv (rds rs) k ∧ ∃ hj : j < rs.length, rs[j].n = x := fun k e hk x hx => by
    rw [ent_anc h.wf hk] at hx
    obtain ⟨j, hj, rfl⟩ := List.mem_map.mp hx
    have hjk := abvGo_lt (List.mem_reverse.mp hj)
    have hkl := (List.getElem?_eq_some_iff.mp hk).1
    have hjl : j < rs.length := by omega
    exact ⟨j, hjk, hj, hjl, by rw [getD_at (by omega), List.getElem_map]⟩
  refine ⟨foOf_p 0 rs fun r hr => ⟨h.nm r hr, (h.bx r hr).1, (h.bx r hr).2, h.wd r hr, h.rk r hr, fun x hx => ?_⟩, shOf_deep h.wf fun r hr => by have := h.ds r hr; omega, by rw [foOf_size]; exact h.len, nd, ?_, ?_⟩
  · obtain ⟨k, hk, rfl⟩ := List.getElem_of_mem hr
    obtain ⟨j, s, _, h2, h3, _⟩ := h.hd k _ (List.getElem?_eq_getElem hk) x hx
    rw [← h3]
    exact h.nm s (List.mem_of_getElem? h2)
  · intro e he x hx
    obtain ⟨k, r, hk, hke, hkey⟩ := num e he
    have hkl := (List.getElem?_eq_some_iff.mp hk).1
    simp only [Ent.key, Ro.key, Prod.mk.injEq] at hkey
    have hrh : r.h = some x := by
      have := hkey.2.2.2.2
      rw [hx] at this
      cases hh : r.h with
      | none => rw [hh] at this; cases this
      | some y => rw [hh] at this; cases this; rfl
    obtain ⟨j, s, hjk, hj, hs, hja⟩ := h.hd k r hk x hrh
    obtain ⟨d, hd, hdk⟩ := ent_at hj
    simp only [Ent.key, Ro.key, Prod.mk.injEq] at hdk
    have hdm := List.mem_of_getElem? hd
    have hjl : j < rs.length := by omega
    have sj : rs[j].n = x := by
      have := List.getElem?_eq_getElem hjl
      rw [hj] at this
      rw [← Option.some.inj this]; exact hs
    refine ⟨d, by rw [← hs, ← hdk.1]; exact at_uniq nd hdm, fun z => ?_, fun z => ?_, fun z => ?_⟩
    · have : (rs.map Ro.n)[j]'(by omega) = (rs.map Ro.n)[k]'(by omega) := by
        rw [List.getElem_map, List.getElem_map, sj, z, hkey.1]
        have := List.getElem?_eq_getElem hkl
        rw [hk] at this
        rw [← Option.some.inj this]
      have := nd_at h.nd _ _ this
      omega
    · obtain ⟨i, hik, hia, hil, hin⟩ := anc_lt k e hke x z
      have : (rs.map Ro.n)[i]'(by omega) = (rs.map Ro.n)[j]'(by omega) := by rw [List.getElem_map, List.getElem_map, hin, sj]
      have := nd_at h.nd _ _ this
      subst this
      exact hja hia
    · obtain ⟨i, hij, hia, hil, hin⟩ := anc_lt j d hd e.n z
      have : (rs.map Ro.n)[i]'(by omega) = (rs.map Ro.n)[k]'(by omega) := by
        rw [List.getElem_map, List.getElem_map, hin, hkey.1]
        have := List.getElem?_eq_getElem hkl
        rw [hk] at this
        rw [← Option.some.inj this]
      have := nd_at h.nd _ _ this
      omega
  · refine ⟨fun x => (rs.map Ro.n).idxOf x, fun a b hab => ?_⟩
    obtain ⟨e, he, rfl, hm⟩ := hab
    obtain ⟨k, r, hk, hke, hkey⟩ := num e he
    have hkl := (List.getElem?_eq_some_iff.mp hk).1
    simp only [Ent.key, Ro.key, Prod.mk.injEq] at hkey
    have idx : ∀ (i : Nat) (hi : i < rs.length), (rs.map Ro.n).idxOf rs[i].n = i := fun i hi => by
      have hm : rs[i].n ∈ rs.map Ro.n := List.mem_map.mpr ⟨_, List.getElem_mem hi, rfl⟩
      have h1 := List.idxOf_lt_length_of_mem hm
      refine nd_at h.nd h1 (by omega) ?_
      rw [List.getElem_idxOf, List.getElem_map]
    have ek : (rs.map Ro.n).idxOf e.n = k := by
      have := List.getElem?_eq_getElem hkl
      rw [hk] at this
      rw [hkey.1, Option.some.inj this, idx k hkl]
    show (rs.map Ro.n).idxOf a < (rs.map Ro.n).idxOf e.n
    rw [ek]
    rcases hm with hm | hm
    · obtain ⟨j, hj, _, hjl, hjn⟩ := anc_lt k e hke a (List.mem_of_getLast? hm)
      rw [← hjn, idx j hjl]; exact hj
    · have hrh : r.h = some a := by
        have := hkey.2.2.2.2
        rw [hm] at this
        cases hh : r.h with
        | none => rw [hh] at this; cases this
        | some y => rw [hh] at this; cases this; rfl
      obtain ⟨j, s, hjk, hj, hs, _⟩ := h.hd k r hk a hrh
      have hjl : j < rs.length := by omega
      have := List.getElem?_eq_getElem hjl
      rw [hj] at this
      rw [← hs, Option.some.inj this, idx j hjl]; exact hjk
end FW

set_option Elab.async false
set_option linter.all false
set_option maxRecDepth 100000
namespace FW
open PySem PySem.Spec PyProof.Rows L2
/-- a change of one part -/
inductive Chg where
  | box (q : Bx)
  | word (w : Str)
  | rank (r : Int)
  | head (o : Option Str)
def Chg.kind : Chg → Str
  | .box _ => "box"
  | .word _ => "word"
  | .rank _ => "rank"
  | .head _ => "head"
def Chg.v : Chg → Val
  | .box q => q.v
  | .word w => .str w
  | .rank r => .int r
  | .head o => optV o
def Chg.at : Chg → Nat
  | .box _ => 0
  | .word _ => 1
  | .rank _ => 2
  | .head _ => 3
def Chg.bx : Chg → Val → Val
  | .box q, _ => q.v
  | _, b => b
def Chg.wd : Chg → Str → Str
  | .word w, _ => w
  | _, w => w
def Chg.rk : Chg → Int → Int
  | .rank r, _ => r
  | _, r => r
def Chg.hd : Chg → Val → Val
  | .head o, _ => optV o
  | _, h => h
/-- a right thing for its kind -/
def Chg.Ok : Chg → Prop
  | .box q => 1 ≤ q.w ∧ 1 ≤ q.h
  | .word w => w ∈ words3
  | .rank r => 0 ≤ r
  | .head o => ∀ x, o = some x → NameOk x
def givenF (x : Str) (c : Chg) : Fo → Fo
  | .nil => .nil
  | .cons n b w r h cs ts => .cons n (if n = x then c.bx b else b) (if n = x then c.wd w else w) (if n = x then c.rk r else r) (if n = x then c.hd h else h) (givenF x c cs) (givenF x c ts)
theorem givenF_size {x : Str} {c : Chg} : ∀ fo : Fo, (givenF x c fo).size = fo.size
  | .nil => rfl
  | .cons _ _ _ _ _ cs ts => by simp only [givenF, Fo.size, givenF_size cs, givenF_size ts]
theorem vs_size : ∀ fo : Fo, fo.vs.length ≤ fo.size
  | .nil => Nat.le_refl _
  | .cons _ _ _ _ _ cs ts => by simp only [Fo.vs, Fo.size, List.length_cons]; have := vs_size ts; omega
def Ro.giv (c : Chg) (r : Ro) : Ro := match c with
  | .box q => ⟨r.d, r.n, q, r.w, r.r, r.h⟩
  | .word w => ⟨r.d, r.n, r.b, w, r.r, r.h⟩
  | .rank k => ⟨r.d, r.n, r.b, r.w, k, r.h⟩
  | .head o => ⟨r.d, r.n, r.b, r.w, r.r, o⟩
def Ro.give (x : Str) (c : Chg) (r : Ro) : Ro := if r.n = x then r.giv c else r
theorem Ro.give_d {x : Str} {c : Chg} (r : Ro) : (r.give x c).d = r.d := by
  unfold Ro.give; split
  · cases c <;> rfl
  · rfl
theorem Ro.give_n {x : Str} {c : Chg} (r : Ro) : (r.give x c).n = r.n := by
  unfold Ro.give; split
  · cases c <;> rfl
  · rfl
theorem span_give {x : Str} {c : Chg} {dp : Nat} (rs : List Ro) : spanA dp (rs.map (Ro.give x c)) = (spanA dp rs).map (Ro.give x c) ∧ spanB dp (rs.map (Ro.give x c)) = (spanB dp rs).map (Ro.give x c) := by
  unfold spanA spanB
  rw [List.takeWhile_map, List.dropWhile_map]
  constructor <;> (congr 2; funext s; simp [Ro.give_d])
theorem givenF_foOf {x : Str} {c : Chg} (dp : Nat) (rs : List Ro) : givenF x c (foOf dp rs) = foOf dp (rs.map (Ro.give x c)) := by
  refine span_ind (M := fun dp rs => givenF x c (foOf dp rs) = foOf dp (rs.map (Ro.give x c))) ?_ ?_ rs.length dp rs (Nat.le_refl _)
  · intro dp; rw [List.map_nil, foOf_nil]; rfl
  · intro dp r rs a b
    rw [List.map_cons, foOf_cons, foOf_cons, (span_give rs).1, (span_give rs).2, ← a, ← b]
    rw [givenF]
    congr 1
    · unfold Ro.give; split
      · cases c <;> rfl
      · rfl
    · unfold Ro.give; split
      · cases c <;> rfl
      · rfl
    · unfold Ro.give; split
      · cases c <;> rfl
      · rfl
    · unfold Ro.give; split
      · cases c <;> rfl
      · rfl
    · unfold Ro.give; split
      · cases c <;> rfl
      · rfl
theorem give_set {c : Chg} {rs : List Ro} (nd : (rs.map Ro.n).Nodup) {k : Nat} {r : Ro} (hk : rs[k]? = some r) : rs.map (Ro.give r.n c) = rs.set k (r.giv c) := by
  refine List.ext_getElem? fun i => ?_
  rw [List.getElem?_map, List.getElem?_set]
  have hkl := (List.getElem?_eq_some_iff.mp hk).1
  by_cases e : k = i
  · subst e
    rw [hk, if_pos rfl, if_pos hkl]
    simp [Ro.give]
  · rw [if_neg e]
    cases h : rs[i]? with
    | none => rfl
    | some s =>
      have : s.n ≠ r.n := fun z => by
        have hi : (rs.map Ro.n)[i]? = some s.n := by rw [List.getElem?_map, h]; rfl
        have hk : (rs.map Ro.n)[k]? = some s.n := by rw [List.getElem?_map, hk, z]; rfl
        have hl : i < (rs.map Ro.n).length := (List.getElem?_eq_some_iff.mp hi).1
        exact e ((List.getElem?_inj hl nd).mp (hi.trans hk.symm)).symm
      simp [Ro.give, this]
theorem wf_ds : ∀ {A B : List Rw} {k : Nat}, A.map Rw.d = B.map Rw.d → WfR k A → WfR k B
  | [], [], _, _, _ => trivial
  | [], _ :: _, _, h, _ => by cases h
  | _ :: _, [], _, h, _ => by cases h
  | a :: A, b :: B, k, h, w => by
    simp only [List.map_cons, List.cons.injEq] at h
    obtain ⟨h1, h2⟩ := w
    exact ⟨by rw [← h.1]; exact h1, by rw [← h.1]; exact wf_ds h.2 h2⟩
theorem map_set_same {α β : Type} (g : α → β) {l : List α} {k : Nat} {a b : α} (h : l[k]? = some a) (e : g b = g a) : (l.set k b).map g = l.map g := by
  refine List.ext_getElem? fun i => ?_
  rw [List.getElem?_map, List.getElem?_map, List.getElem?_set]
  by_cases z : k = i
  · subst z
    have kl := (List.getElem?_eq_some_iff.mp h).1
    rw [if_pos rfl, if_pos kl, h]
    simp [e]
  · rw [if_neg z]
/-- rows stay right when a part gets a box, a word or a rank -/
theorem RosOk.give {rs : List Ro} {m k : Nat} {r : Ro} {c : Chg} (h : RosOk rs m) (hk : rs[k]? = some r) (ok : c.Ok) (nh : ∀ o, c ≠ .head o) : RosOk (rs.set k (r.giv c)) m := by
  have gd : (r.giv c).d = r.d := by cases c <;> rfl
  have gn : (r.giv c).n = r.n := by cases c <;> rfl
  have gh : (r.giv c).h = r.h := by
    cases c with
    | head o => exact absurd rfl (nh o)
    | _ => rfl
  have mem : ∀ {Q : Ro → Prop}, (∀ s ∈ rs, Q s) → Q (r.giv c) → ∀ s ∈ rs.set k (r.giv c), Q s := fun a b s hs => by
    rcases List.mem_or_eq_of_mem_set hs with h | h
    · exact a s h
    · rw [h]; exact b
  have hr := List.mem_of_getElem? hk
  have orig : ∀ (i : Nat) (s : Ro), (rs.set k (r.giv c))[i]? = some s → ∃ s' : Ro, rs[i]? = some s' ∧ s'.h = s.h := fun i s e => by
    rw [List.getElem?_set] at e
    split at e
    · rename_i z
      subst z
      split at e
      · cases e; exact ⟨r, hk, gh.symm⟩
      · cases e
    · exact ⟨s, e, rfl⟩
  have back : ∀ (i : Nat) (s : Ro), rs[i]? = some s → ∃ s' : Ro, (rs.set k (r.giv c))[i]? = some s' ∧ s'.n = s.n := fun i s e => by
    rw [List.getElem?_set]
    by_cases z : k = i
    · subst z
      rw [hk] at e; cases e
      rw [if_pos rfl, if_pos (List.getElem?_eq_some_iff.mp hk).1]
      exact ⟨_, rfl, gn⟩
    · rw [if_neg z]; exact ⟨s, e, rfl⟩
  refine ⟨by rw [List.length_set]; exact h.len, wf_ds ?_ h.wf, by rw [map_set_same Ro.n hk gn]; exact h.nd, mem h.nm (by rw [gn]; exact h.nm r hr), mem h.ds (by rw [gd]; exact h.ds r hr),
    mem h.wd ?_, mem h.rk ?_, mem h.bx ?_, fun i s hi x hx => ?_⟩
  · rw [List.map_map, List.map_map]
    exact (map_set_same (Rw.d ∘ Ro.rw) hk gd).symm
  · cases c with
    | word w => exact ok
    | _ => exact h.wd r hr
  · cases c with
    | rank w => exact ok
    | _ => exact h.rk r hr
  · cases c with
    | box w => exact ok
    | _ => exact h.bx r hr
  · obtain ⟨s', e1, e2⟩ := orig i s hi
    obtain ⟨j, u, h1, h2, h3, h4⟩ := h.hd i s' e1 x (by rw [e2]; exact hx)
    obtain ⟨u', g1, g2⟩ := back j u h2
    refine ⟨j, u', h1, g1, by rw [g2]; exact h3, ?_⟩
    have : rds (rs.set k (r.giv c)) = rds rs := map_set_same Ro.d hk gd
    rw [this]; exact h4
/-- waiting[k], to which a part goes later -/
theorem Waits.at {S0 S : Sto} {wl : Addr} {m d : Nat} {F : Nat → Fo} {k : Int} {Q : VP} (wt : Waits S0 S wl m F) (hk : k = (d : Nat)) (hd : d < m)
    (q : ∀ a, S a = some (.lst (F d).vs.reverse) → (∀ S', Ext S S' → ∀ (n : Str) (b : Val) (w : Str) (r : Int) (h : Val) (cs : Fo), Waits S0 (S'.put a (.lst ((F d).vs.reverse ++ [.tup [.str n, b, .str w, .int r, h, .tup cs.vs]]))) wl m (pushF F d n b w r h cs)) → Q (.ref a) S) :
    semIx (.ref wl) (.int k) S Q := by
  subst hk
  obtain ⟨h1, h2, ws, h3, h4, h5, h6, h7⟩ := wt
  have hdw : d < ws.length := by omega
  refine ix_lst (x := .ref ws[d]) h3 (by rw [atI_natE, List.getElem?_map, List.getElem?_eq_getElem (by omega)]; rfl) ?_
  have hv := h7 d _ (List.getElem?_eq_getElem hdw)
  have hw0 := h6 ws[d] (List.getElem_mem hdw)
  refine q _ hv fun S' x n b w r h cs => ⟨putNew (h1.trans x) hw0.1, h2, ws, by rw [put_ne (Ne.symm hw0.2)]; exact x _ _ h3, h4, h5, h6, ?_⟩
  intro j a hj
  by_cases e : j = d
  · subst e
    rw [List.getElem?_eq_getElem hdw] at hj
    cases hj
    rw [put_same]
    simp [pushF, Fo.vs]
  · have hne : a ≠ ws[d] := fun z => by
      obtain ⟨hd1, hd2⟩ := List.getElem?_eq_some_iff.mp hj
      exact e ((List.getElem?_inj hd1 h5).mp (by rw [hj, z]; simp [hdw]))
    rw [put_ne hne, x _ _ (h7 j a hj)]
    simp [pushF, e]
/-- waiting[k] = [], once the new list is built -/
theorem Waits.wipeAt {S0 S S1 : Sto} {wl y : Addr} {m d : Nat} {F : Nat → Fo} {k : Int} {Q : Sto → Prop} (w : Waits S0 S wl m F) (hy : S y = none) (y1 : Ext S S1) (hy1 : S1 y = some (.lst [])) (hk : k = (d : Nat)) (hd : d < m) (q : ∀ S', Waits S0 S' wl m (wipeF F d) → Q S') :
    semSet (.ref wl) (.int k) (.ref y) S1 Q := by
  subst hk
  obtain ⟨h1, h2, ws, h3, h4, h5, h6, h7⟩ := w
  have hyw : y ∉ ws := fun hm => by
    obtain ⟨j, hj, hj2⟩ := List.getElem_of_mem hm
    rw [← hj2, h7 j _ (List.getElem?_eq_getElem hj)] at hy; cases hy
  have hywl : y ≠ wl := fun z => by rw [z, h3] at hy; cases hy
  refine set_lst (j := d) (y1 _ _ h3) (ixN_nat (by rw [List.length_map]; omega)) (q _ ⟨putNew (h1.trans y1) h2, h2, ws.set d y, ?_, by rw [List.length_set]; exact h4, nodup_set h5 hyw, ?_, ?_⟩)
  · rw [put_same, List.map_set]
  · intro w hw
    rcases List.mem_or_eq_of_mem_set hw with hw | rfl
    · exact h6 w hw
    · exact ⟨h1.none hy, hywl⟩
  · intro j a hj
    by_cases e : j = d
    · subst e
      rw [List.getElem?_set_self (by omega)] at hj
      cases hj
      rw [put_ne hywl, hy1]
      simp [wipeF, Fo.vs]
    · rw [List.getElem?_set_ne (Ne.symm e)] at hj
      rw [put_ne (h6 a (List.mem_of_getElem? hj)).2, y1 _ _ (h7 j a hj)]
      simp [wipeF, e]
theorem RoAt.setAt {S : Sto} {r' : Ro} : ∀ {as : List Addr} {rs : List Ro} {k : Nat} {a : Addr}, RoAt S as rs → as.Nodup → as[k]? = Option.some a → RoAt (S.put a (.lst r'.vals)) as (rs.set k r')
  | _, _, _, _, .nil, _, h => by simp at h
  | _, _, 0, a, .cons e t, nd, h => by
    cases h
    rw [List.nodup_cons] at nd
    exact .cons put_same (t.extOn fun x o hx z => by rw [put_ne (show x ≠ a from fun y => nd.1 (by rw [← y]; exact hx))]; exact z)
  | _, _, k + 1, a, .cons (a := b) e t, nd, h => by
    rw [List.nodup_cons] at nd
    have h' := h
    rw [List.getElem?_cons_succ] at h'
    have hb : b ≠ a := fun y => nd.1 (y ▸ List.mem_of_getElem? h')
    exact .cons (by rw [put_ne hb]; exact e) (t.setAt nd.2 h')
theorem RowsL.setAt {S : Sto} {R a : Addr} {as : List Addr} {rs : List Ro} {k : Nat} {r' : Ro} (h : RowsL S R as rs) (nd : as.Nodup) (hR : R ∉ as) (ha : as[k]? = Option.some a) : RowsL (S.put a (.lst r'.vals)) R as (rs.set k r') :=
  ⟨by rw [put_ne (show R ≠ a from fun y => hR (by rw [y]; exact List.mem_of_getElem? ha))]; exact h.1, h.2.setAt nd ha⟩
end FW

set_option Elab.async false
set_option linter.all false
set_option maxRecDepth 100000
/-! Where one comes to from an open part. -/
namespace FW
open PySem PySem.Spec PyProof.Rows L2
theorem tab8 {fo : Fo} {e : Ent} : (tabV fo e).length = 8 := by unfold tabV; simp [fourV_len]
theorem quads_names {es : List Ent} : ∀ {i : Nat} {xs : List Str}, (quads es i xs).map fourth = xs
  | i, [] => rfl
  | i, y :: xs => by rw [quads, List.map_cons, quads_names]; rfl
theorem in_walk {fo : Fo} {x : Str} : x ∈ walkF fo ↔ x ∈ opens fo := by
  unfold walkF
  have p := (List.mergeSort_perm (quads (ents fo) 0 (opens fo)) vle).map fourth
  rw [quads_names] at p
  exact p.mem_iff
/-- the names of the outermost -/
def Fo.tops : Fo → List Str
  | .nil => []
  | .cons n _ _ _ _ _ ts => n :: ts.tops
theorem tops_len : ∀ fo : Fo, fo.tops.length = fo.vs.length
  | .nil => rfl
  | .cons _ _ _ _ _ _ ts => by rw [Fo.tops, Fo.vs, List.length_cons, List.length_cons, tops_len ts]
theorem kid_lay : ∀ (fo : Fo) (anc : List Str) (pl : List Val) (k : Nat), ∀ e ∈ lay anc pl k fo, (e.anc = anc ∧ e.n ∈ fo.tops) ∨ ∃ d ∈ lay anc pl k fo, e.anc.getLast? = some d.n ∧ e.n ∈ d.cs.tops
  | .nil, _, _, _, e, h => by simp [lay] at h
  | .cons n b w r h cs ts, anc, pl, k, e, he => by
    simp only [lay, List.mem_cons, List.mem_append] at he
    rcases he with rfl | he | he
    · exact .inl ⟨rfl, List.mem_cons_self⟩
    · rcases kid_lay cs _ _ _ e he with ⟨h1, h2⟩ | ⟨d, h1, h2, h3⟩
      · exact .inr ⟨_, by rw [lay]; exact List.mem_cons_self, by rw [h1]; simp, h2⟩
      · exact .inr ⟨d, by rw [lay]; exact List.mem_cons_of_mem _ (List.mem_append_left _ h1), h2, h3⟩
    · rcases kid_lay ts _ _ _ e he with ⟨h1, h2⟩ | ⟨d, h1, h2, h3⟩
      · exact .inl ⟨h1, List.mem_cons_of_mem _ h2⟩
      · exact .inr ⟨d, by rw [lay]; exact List.mem_cons_of_mem _ (List.mem_append_right _ h1), h2, h3⟩
/-- who is right within g -/
theorem kid_of {fo : Fo} {e : Ent} {g : Str} (he : e ∈ ents fo) (h : e.anc.getLast? = some g) : ∃ d ∈ ents fo, d.n = g ∧ e.n ∈ d.cs.tops := by
  rcases kid_lay fo [] [] 0 e he with ⟨h1, _⟩ | ⟨d, h1, h2, h3⟩
  · rw [h1] at h; cases h
  · exact ⟨d, h1, Option.some.inj (h2.symm.trans h), h3⟩
theorem Closed.up : ∀ {D R : List Line}, Closed D R → ∀ l ∈ R, AboveIn (D ++ R) l
  | _, _, .cons (D := D) (ls := ls) (l := l) h t, m, hm => by
    rcases List.mem_cons.mp hm with rfl | hm
    · exact fun q u e => (h q u e).imp id fun z => List.mem_append_left _ z
    · have := t.up m hm
      rw [List.append_assoc] at this
      exact this
theorem open_up {fo : Fo} (nd : ((ents fo).map Ent.n).Nodup) {e : Ent} {g : Str} (he : e ∈ ents fo) (ho : e.n ∈ opens fo) (hg : e.anc.getLast? = some g) : g ∈ opens fo := by
  have nd' : ((rowsF [] fo).map lname).Nodup := by rw [← names_rows]; exact nd
  have r := rowsF_rep [] fo
  obtain ⟨k, hk, rfl⟩ := List.getElem_of_mem he
  obtain ⟨l, hl, q, t, h1, h2, h3, h4, h5⟩ := (r.ents [] 0).get (List.getElem?_eq_getElem hk)
  have hlm := List.mem_of_getElem? hl
  rw [opens_rows r nd'] at ho ⊢
  obtain ⟨l', hl', hn⟩ := List.mem_map.mp ho
  obtain ⟨hl', hf⟩ := List.mem_filter.mp hl'
  have : l' = l := nodup_inj nd' hl' hlm (by rw [hn, h1, lname_app, h2])
  subst this
  rw [h5] at hg
  rcases List.eq_nil_or_concat q with rfl | ⟨q1, u, rfl⟩
  · cases hg
  · rw [List.concat_eq_append] at h1 hg
    have hu : u.n = g := by simpa using hg
    have := (r.closed [] (.inl rfl)).up l' hlm (q1 ++ [u]) t h1
    rw [List.nil_append] at this
    rcases this with z | hq
    · simp at z
    refine List.mem_map.mpr ⟨q1 ++ [u], List.mem_filter.mpr ⟨hq, ?_⟩, by rw [lname_app, hu]⟩
    rw [h1, freeL_app] at hf
    exact (Bool.and_eq_true_iff.mp hf).1
theorem four_in {q : Bx} {Q : Str → Prop} : ∀ (ps : List Ent) (bf : List BF), (∀ p ∈ bf, ∀ x, p.2 = some x → Q x) → (∀ e ∈ ps, Q e.n) → ∀ p ∈ fourL q ps bf, ∀ x, p.2 = some x → Q x
  | [], bf, h, _ => h
  | e :: ps, bf, h, g => by
    refine four_in ps _ ?_ fun d hd => g d (List.mem_cons_of_mem _ hd)
    intro p hp x hx
    unfold updL at hp
    obtain ⟨i, hi, hp2⟩ := List.getElem_of_mem hp
    rw [List.getElem_zipWith] at hp2
    split at hp2
    · rw [← hp2] at hx
      cases hx
      exact g e List.mem_cons_self
    · rw [← hp2] at hx
      exact h _ (List.getElem_mem _) x hx
/-- from an open part every key leads to an open part or nowhere -/
theorem tab_ok {fo : Fo} (nd : ((ents fo).map Ent.n).Nodup) {e : Ent} (he : e ∈ ents fo) (ho : e.n ∈ opens fo) {i : Nat} (hi : i < 8) : ∃ o : Option Str, (tabV fo e)[i]? = some (optV o) ∧ (∀ y, o = some y → y ∈ opens fo) ∧ (i = 7 → o = e.anc.getLast?) := by
  have hl := fourV_len (bxOf e.b) (matesF (openE fo) e.pl)
  have hol : ∀ d ∈ openE fo, d.n ∈ opens fo := fun d hd => of_decide_eq_true (List.mem_filter.mp hd).2
  have onw : ∀ j : Nat, ∀ y, (walkF fo)[j]? = some y → y ∈ opens fo := fun j y hy => in_walk.mp (List.mem_of_getElem? hy)
  unfold tabV
  by_cases h0 : i = 0
  · subst h0
    exact ⟨_, rfl, onw _, fun z => by cases z⟩
  by_cases h1 : i = 1
  · subst h1
    exact ⟨_, rfl, onw _, fun z => by cases z⟩
  by_cases h6 : i = 6
  · subst h6
    refine ⟨innerF (openE fo) e.pl, ?_, fun y hy => ?_, fun z => by cases z⟩
    · rw [List.getElem?_append_right (by simp [hl])]
      simp [hl]
    · unfold innerF at hy
      obtain ⟨d, hd, rfl⟩ := Option.map_eq_some_iff.mp hy
      exact hol d (List.mem_of_find?_eq_some hd)
  by_cases h7 : i = 7
  · subst h7
    refine ⟨e.anc.getLast?, ?_, fun y hy => open_up nd he ho hy, fun _ => rfl⟩
    rw [List.getElem?_append_right (by simp [hl])]
    simp [hl]; rfl
  · have hlt : i - 2 < (fourL (bxOf e.b) (matesF (openE fo) e.pl) bf0).length := by rw [fourL_len _ _ _ rfl]; omega
    refine ⟨((fourL (bxOf e.b) (matesF (openE fo) e.pl) bf0)[i - 2]).2, ?_, fun y hy => ?_, fun z => absurd z h7⟩
    · rw [List.getElem?_append_left (by simp [hl]; omega), List.getElem?_append_right (by simp; omega)]
      unfold fourV
      simp only [List.length_cons, List.length_nil]
      rw [List.getElem?_map, List.getElem?_eq_getElem hlt]; rfl
    · refine four_in (Q := fun x => x ∈ opens fo) (matesF (openE fo) e.pl) bf0 (fun p hp x hx => ?_) (fun d hd => hol d (List.mem_filter.mp hd).1) _ (List.getElem_mem hlt) y hy
      simp [bf0] at hp
      rw [hp] at hx; cases hx
/-! ### the book: from which part one went out -/
def BkOk (fo : Fo) (D : List (Val × Val)) : Prop := ∀ p ∈ D, ∃ g x, p = (.str g, .str x) ∧ x ∈ opens fo ∧ ∃ d ∈ ents fo, d.n = g ∧ x ∈ d.cs.tops
theorem BkOk.put {fo : Fo} {D : List (Val × Val)} (h : BkOk fo D) {e : Ent} {g : Str} (he : e ∈ ents fo) (ho : e.n ∈ opens fo) (hg : e.anc.getLast? = some g) : BkOk fo (dput D (.str g) (.str e.n)) := by
  obtain ⟨d, h1, h2, h3⟩ := kid_of he hg
  intro p hp
  unfold dput at hp
  split at hp
  · obtain ⟨q, hq, rfl⟩ := List.mem_map.mp hp
    split
    · rename_i hq2
      have hq2 : q.1 = .str g := by simpa using hq2
      exact ⟨g, e.n, by rw [hq2], ho, d, h1, h2, h3⟩
    · exact h q hq
  · rcases List.mem_append.mp hp with hp | hp
    · exact h p hp
    · rw [List.mem_singleton.mp hp]
      exact ⟨g, e.n, rfl, ho, d, h1, h2, h3⟩
theorem BkOk.get {fo : Fo} {D : List (Val × Val)} (h : BkOk fo D) {g : Str} {v : Val} (hv : dget D (.str g) = some v) : ∃ x, v = .str x ∧ x ∈ opens fo ∧ ∃ d ∈ ents fo, d.n = g ∧ x ∈ d.cs.tops := by
  unfold dget at hv
  obtain ⟨p, hp, rfl⟩ := Option.map_eq_some_iff.mp hv
  have hk := List.find?_some hp
  obtain ⟨g', x, rfl, h1, h2⟩ := h p (List.mem_of_find?_eq_some hp)
  have : g' = g := by simpa using hk
  subst this
  exact ⟨x, rfl, h1, h2⟩
theorem BkOk.suits {fo : Fo} {D : List (Val × Val)} (h : BkOk fo D) (x : Str) : suits D (.str x) = true := by
  unfold FW.suits
  rw [Bool.or_eq_true]
  left
  rw [show keyK (.str x) = true from rfl, Bool.true_and]
  unfold allK
  rw [List.all_eq_true]
  intro q hq
  obtain ⟨g, y, rfl, _⟩ := h q hq
  rfl
theorem dput_len {D : List (Val × Val)} {k v : Val} : (dput D k v).length ≤ D.length + 1 := by
  unfold dput
  split
  · simp
  · simp
end FW

set_option Elab.async false
set_option linter.all false
set_option maxRecDepth 100000
set_option maxHeartbeats 0
/-! The law's defs in the small language, the head. -/
namespace K81
open PySem PySem.Spec PyProof.Rows L2 FW
def top (i : Nat) : Stmt := PySem.Challenge.pw_focuswalk_k81_keys_pressed.main.body.getD i (.Pass ⟨0, 0, 0, 0⟩)
def topM (i j : Nat) : Stmt := (clsBody (top i)).getD j (.Pass ⟨0, 0, 0, 0⟩)
abbrev xcs : List Str := ["FocusError", "NoKey", "NoPart", "NotOpen"]
abbrev i_lay_out : Nat := 0
abbrev i_entries : Nat := 1
abbrev i_entry_of : Nat := 2
abbrev i_part_of : Nat := 3
abbrev i_inner_of : Nat := 4
abbrev i_words_on : Nat := 5
abbrev i_first_with : Nat := 6
abbrev i_why_in : Nat := 7
abbrev i_why_not : Nat := 8
abbrev i_is_open : Nat := 9
abbrev i_ask_open : Nat := 10
abbrev i_seen_or_open : Nat := 11
abbrev i_open_parts : Nat := 12
abbrev i_walk : Nat := 13
abbrev i_next_to : Nat := 14
abbrev i_on_from : Nat := 15
abbrev i_back_from : Nat := 16
abbrev i_across_of : Nat := 17
abbrev i_down_of : Nat := 18
abbrev i_have_common : Nat := 19
abbrev i_far_apart : Nat := 20
abbrev i_near_by : Nat := 21
abbrev i_nears : Nat := 22
abbrev i_opposite : Nat := 23
abbrev i_open_entries : Nat := 24
abbrev i_mates_in : Nat := 25
abbrev i_nearest_four : Nat := 26
abbrev i_first_inner : Nat := 27
abbrev i_nearest : Nat := 28
abbrev i_into : Nat := 29
abbrev i_out_of : Nat := 30
abbrev i_goes : Nat := 31
abbrev i__law_feed : Nat := 32
abbrev i__law_next : Nat := 33
abbrev i__law_rows : Nat := 34
abbrev i__law_hung : Nat := 35
abbrev i__law_first : Nat := 36
abbrev i__law_goal : Nat := 37
abbrev i_law : Nat := 38
abbrev i_Walker___init__ : Nat := 39
abbrev i_Walker_come_to : Nat := 40
abbrev i_Walker_stand : Nat := 41
abbrev i_Walker_sheet : Nat := 42
abbrev i_Walker_told : Nat := 43
abbrev i_Walker_into_kept : Nat := 44
abbrev i_Walker_press : Nat := 45
def b_lay_out : Sts := 
  (.cons (.for_ (.tp [4, 5]) (.enum (.var 0)) (
   (.cons (.drop (.mth .append (.var 3) (.cons (.tup (.cons (.bin .add (.var 1) (.tup (.cons (.var 4) .nil))) (.cons (.var 5) (.cons (.var 2) .nil)))) .nil))) 
   (.cons (.drop (.call i_lay_out (.cons (.ix (.var 5) (.con (.int 5))) (.cons (.bin .add (.var 1) (.tup (.cons (.var 4) .nil))) (.cons (.bin .add (.var 2) (.lst (.cons (.ix (.var 5) (.con (.int 0))) .nil))) (.cons (.var 3) .nil)))))) .nil)))) .nil)
def f_lay_out : Fn := ⟨"lay_out", 4, ["parts", "place", "names", "told", "k", "part"], b_lay_out, none⟩
def b_entries : Sts := 
  (.cons (.set 1 (.lst .nil)) 
  (.cons (.drop (.call i_lay_out (.cons (.var 0) (.cons (.tup .nil) (.cons (.lst .nil) (.cons (.var 1) .nil)))))) 
  (.cons (.ret (.var 1)) .nil)))
def f_entries : Fn := ⟨"entries", 1, ["sheet", "told"], b_entries, none⟩
def b_entry_of : Sts := 
  (.cons (.for_ (.nm 2) (.seq (.call i_entries (.cons (.var 0) .nil))) (
   (.cons (.ite (.cmp .eq (.ix (.ix (.var 2) (.con (.int 1))) (.con (.int 0))) (.var 1)) (
    (.cons (.ret (.var 2)) .nil)) (.nil)) .nil))) 
  (.cons (.raise "NoPart" "name" (.yes (.var 1))) .nil))
def f_entry_of : Fn := ⟨"entry_of", 2, ["sheet", "name", "entry"], b_entry_of, none⟩
def b_part_of : Sts := 
  (.cons (.ret (.ix (.call i_entry_of (.cons (.var 0) (.cons (.var 1) .nil))) (.con (.int 1)))) .nil)
def f_part_of : Fn := ⟨"part_of", 2, ["sheet", "name"], b_part_of, none⟩
def b_inner_of : Sts := 
  (.cons (.ite (.cmp .isN (.var 1) (.con .non)) (
   (.cons (.ret (.lc [2] [2] true (.seq (.var 0)) .no (.ix (.var 2) (.con (.int 0))))) .nil)) (.nil)) 
  (.cons (.ret (.lc [2] [2] true (.seq (.ix (.call i_part_of (.cons (.var 0) (.cons (.var 1) .nil))) (.con (.int 5)))) .no (.ix (.var 2) (.con (.int 0))))) .nil))
def f_inner_of : Fn := ⟨"inner_of", 2, ["sheet", "name", "part"], b_inner_of, none⟩
def b_words_on : Sts := 
  (.cons (.set 2 (.dic .nil)) 
  (.cons (.for_ (.tp [3, 4, 5]) (.seq (.var 0)) (
   (.cons (.sub (.var 2) (.ix (.var 4) (.con (.int 0))) (.ix (.var 4) (.con (.int 2)))) .nil))) 
  (.cons (.ret (.lc [6] [6] true (.seq (.bin .add (.ix (.var 1) (.con (.int 2))) (.lst (.cons (.ix (.ix (.var 1) (.con (.int 1))) (.con (.int 0))) .nil)))) .no (.tup (.cons (.var 6) (.cons (.ix (.var 2) (.var 6)) .nil))))) .nil)))
def f_words_on : Fn := ⟨"words_on", 2, ["told", "entry", "words", "place", "part", "names", "name"], b_words_on, none⟩
def b_first_with : Sts := 
  (.cons (.for_ (.tp [3, 4]) (.seq (.call i_words_on (.cons (.var 0) (.cons (.var 1) .nil)))) (
   (.cons (.ite (.cmp .eq (.var 4) (.var 2)) (
    (.cons (.ret (.var 3)) .nil)) (.nil)) .nil))) 
  (.cons (.ret (.con .non)) .nil))
def f_first_with : Fn := ⟨"first_with", 3, ["told", "entry", "word", "name", "other"], b_first_with, none⟩
def b_why_in : Sts := 
  (.cons (.for_ (.nm 2) (.seq (.tup (.cons (.glo "HIDDEN" (.str "hidden")) (.cons (.glo "SHUT" (.str "shut")) .nil)))) (
   (.cons (.set 3 (.call i_first_with (.cons (.var 0) (.cons (.var 1) (.cons (.var 2) .nil))))) 
   (.cons (.ite (.cmp .notN (.var 3) (.con .non)) (
    (.cons (.ret (.tup (.cons (.var 2) (.cons (.var 3) .nil)))) .nil)) (.nil)) .nil)))) 
  (.cons (.ret (.con .non)) .nil))
def f_why_in : Fn := ⟨"why_in", 2, ["told", "entry", "word", "name"], b_why_in, none⟩
def b_why_not : Sts := 
  (.cons (.set 2 (.call i_entry_of (.cons (.var 0) (.cons (.var 1) .nil)))) 
  (.cons (.ret (.call i_why_in (.cons (.call i_entries (.cons (.var 0) .nil)) (.cons (.var 2) .nil)))) .nil))
def f_why_not : Fn := ⟨"why_not", 2, ["sheet", "name", "entry"], b_why_not, none⟩
def b_is_open : Sts := 
  (.cons (.ret (.cmp .isN (.call i_why_not (.cons (.var 0) (.cons (.var 1) .nil))) (.con .non))) .nil)
def f_is_open : Fn := ⟨"is_open", 2, ["sheet", "name"], b_is_open, none⟩
def b_ask_open : Sts := 
  (.cons (.set 2 (.call i_why_not (.cons (.var 0) (.cons (.var 1) .nil)))) 
  (.cons (.ite (.cmp .notN (.var 2) (.con .non)) (
   (.cons (.raise "NotOpen" "why" (.yes (.var 2))) .nil)) (.nil)) .nil))
def f_ask_open : Fn := ⟨"ask_open", 2, ["sheet", "name", "why"], b_ask_open, none⟩
def b_seen_or_open : Sts := 
  (.cons (.set 2 (.lst .nil)) 
  (.cons (.set 3 (.lst .nil)) 
  (.cons (.for_ (.tp [4, 5, 6]) (.seq (.call i_entries (.cons (.var 0) .nil))) (
   (.cons (.ite (.bor (.cons (.band (.cons (.cmp .ne (.ix (.var 5) (.con (.int 2))) (.glo "FREE" (.str "free"))) (.cons (.bor (.cons (.var 1) (.cons (.cmp .eq (.ix (.var 5) (.con (.int 2))) (.glo "HIDDEN" (.str "hidden"))) .nil))) .nil))) (.cons (.blt .any_ (.cons (.lc [7] [7] true (.seq (.var 6)) .no (.cmp .mem (.var 7) (.var 3))) .nil)) .nil))) (
    (.cons (.drop (.mth .append (.var 3) (.cons (.ix (.var 5) (.con (.int 0))) .nil))) .nil)) (
    (.cons (.drop (.mth .append (.var 2) (.cons (.ix (.var 5) (.con (.int 0))) .nil))) .nil))) .nil))) 
  (.cons (.ret (.var 2)) .nil))))
def f_seen_or_open : Fn := ⟨"seen_or_open", 2, ["sheet", "only", "found", "shut", "place", "part", "names", "name"], b_seen_or_open, none⟩
def b_open_parts : Sts := 
  (.cons (.ret (.call i_seen_or_open (.cons (.var 0) (.cons (.con (.bl true)) .nil)))) .nil)
def f_open_parts : Fn := ⟨"open_parts", 1, ["sheet"], b_open_parts, none⟩
def b_walk : Sts := 
  (.cons (.set 1 (.dic .nil)) 
  (.cons (.for_ (.tp [2, 3, 4]) (.seq (.call i_entries (.cons (.var 0) .nil))) (
   (.cons (.sub (.var 1) (.ix (.var 3) (.con (.int 0))) (.ix (.var 3) (.con (.int 3)))) .nil))) 
  (.cons (.set 5 (.lst .nil)) 
  (.cons (.for_ (.tp [6, 7]) (.enum (.call i_open_parts (.cons (.var 0) .nil))) (
   (.cons (.drop (.mth .append (.var 5) (.cons (.tup (.cons (.blt .int_ (.cons (.cmp .eq (.ix (.var 1) (.var 7)) (.con (.int 0))) .nil)) (.cons (.ix (.var 1) (.var 7)) (.cons (.var 6) (.cons (.var 7) .nil))))) .nil))) .nil))) 
  (.cons (.ret (.lc [8] [8] true (.seq (.blt .sorted_ (.cons (.var 5) .nil))) .no (.ix (.var 8) (.con (.int 3))))) .nil)))))
def f_walk : Fn := ⟨"walk", 1, ["sheet", "ranks", "place", "part", "names", "ranked", "number", "name", "one"], b_walk, none⟩
def b_next_to : Sts := 
  (.cons (.drop (.call i_ask_open (.cons (.var 0) (.cons (.var 1) .nil)))) 
  (.cons (.set 3 (.call i_walk (.cons (.var 0) .nil))) 
  (.cons (.ret (.ix (.var 3) (.bin .mod (.bin .add (.mth .index (.var 3) (.cons (.var 1) .nil)) (.var 2)) (.blt .len (.cons (.var 3) .nil))))) .nil)))
def f_next_to : Fn := ⟨"next_to", 3, ["sheet", "name", "step", "names"], b_next_to, none⟩
def b_on_from : Sts := 
  (.cons (.ret (.call i_next_to (.cons (.var 0) (.cons (.var 1) (.cons (.con (.int 1)) .nil))))) .nil)
def f_on_from : Fn := ⟨"on_from", 2, ["sheet", "name"], b_on_from, none⟩
def b_back_from : Sts := 
  (.cons (.ret (.call i_next_to (.cons (.var 0) (.cons (.var 1) (.cons (.bin .sub (.con (.int 0)) (.con (.int 1))) .nil))))) .nil)
def f_back_from : Fn := ⟨"back_from", 2, ["sheet", "name"], b_back_from, none⟩
def b_across_of : Sts := 
  (.cons (.ret (.tup (.cons (.ix (.var 0) (.con (.int 0))) (.cons (.bin .add (.ix (.var 0) (.con (.int 0))) (.ix (.var 0) (.con (.int 2)))) .nil)))) .nil)
def f_across_of : Fn := ⟨"across_of", 1, ["box"], b_across_of, none⟩
def b_down_of : Sts := 
  (.cons (.ret (.tup (.cons (.ix (.var 0) (.con (.int 1))) (.cons (.bin .add (.ix (.var 0) (.con (.int 1))) (.ix (.var 0) (.con (.int 3)))) .nil)))) .nil)
def f_down_of : Fn := ⟨"down_of", 1, ["box"], b_down_of, none⟩
def b_have_common : Sts := 
  (.cons (.ret (.band (.cons (.cmp .lt (.ix (.var 0) (.con (.int 0))) (.ix (.var 1) (.con (.int 1)))) (.cons (.cmp .lt (.ix (.var 1) (.con (.int 0))) (.ix (.var 0) (.con (.int 1)))) .nil)))) .nil)
def f_have_common : Fn := ⟨"have_common", 2, ["one", "other"], b_have_common, none⟩
def b_far_apart : Sts := 
  (.cons (.ite (.call i_have_common (.cons (.var 0) (.cons (.var 1) .nil))) (
   (.cons (.ret (.con (.int 0))) .nil)) (.nil)) 
  (.cons (.ret (.blt .max_ (.cons (.bin .sub (.ix (.var 1) (.con (.int 0))) (.ix (.var 0) (.con (.int 1)))) (.cons (.bin .sub (.ix (.var 0) (.con (.int 0))) (.ix (.var 1) (.con (.int 1)))) .nil)))) .nil))
def f_far_apart : Fn := ⟨"far_apart", 2, ["one", "other"], b_far_apart, none⟩
def b_near_by : Sts := 
  (.cons (.ite (.cmp .lt (.var 0) (.con (.int 0))) (
   (.cons (.ret (.con .non)) .nil)) (.nil)) 
  (.cons (.ret (.tup (.cons (.blt .int_ (.cons (.not (.call i_have_common (.cons (.var 1) (.cons (.var 2) .nil)))) .nil)) (.cons (.var 0) (.cons (.call i_far_apart (.cons (.var 1) (.cons (.var 2) .nil))) .nil))))) .nil))
def f_near_by : Fn := ⟨"near_by", 3, ["gap", "one", "other"], b_near_by, none⟩
def b_nears : Sts := 
  (.cons (.set 2 (.call i_across_of (.cons (.var 0) .nil))) 
  (.cons (.set 3 (.call i_down_of (.cons (.var 0) .nil))) 
  (.cons (.set 4 (.call i_across_of (.cons (.var 1) .nil))) 
  (.cons (.set 5 (.call i_down_of (.cons (.var 1) .nil))) 
  (.cons (.set 6 (.lst (.cons (.call i_near_by (.cons (.bin .sub (.ix (.var 3) (.con (.int 0))) (.ix (.var 5) (.con (.int 1)))) (.cons (.var 2) (.cons (.var 4) .nil)))) (.cons (.call i_near_by (.cons (.bin .sub (.ix (.var 5) (.con (.int 0))) (.ix (.var 3) (.con (.int 1)))) (.cons (.var 2) (.cons (.var 4) .nil)))) .nil)))) 
  (.cons (.ret (.bin .add (.var 6) (.lst (.cons (.call i_near_by (.cons (.bin .sub (.ix (.var 2) (.con (.int 0))) (.ix (.var 4) (.con (.int 1)))) (.cons (.var 3) (.cons (.var 5) .nil)))) (.cons (.call i_near_by (.cons (.bin .sub (.ix (.var 4) (.con (.int 0))) (.ix (.var 2) (.con (.int 1)))) (.cons (.var 3) (.cons (.var 5) .nil)))) .nil))))) .nil))))))
def f_nears : Fn := ⟨"nears", 2, ["box", "other", "level", "steep", "across", "down", "found"], b_nears, none⟩
def b_opposite : Sts := 
  (.cons (.ite (.kin true (.var 0) "OPPOSITES" [("up", (.str "down")), ("down", (.str "up")), ("left", (.str "right")), ("right", (.str "left"))]) (
   (.cons (.raise "NoKey" "" .no) .nil)) (.nil)) 
  (.cons (.ret (.kix "OPPOSITES" [("up", (.str "down")), ("down", (.str "up")), ("left", (.str "right")), ("right", (.str "left"))] (.var 0))) .nil))
def f_opposite : Fn := ⟨"opposite", 1, ["way"], b_opposite, none⟩
def b_open_entries : Sts := 
  (.cons (.set 1 (.call i_open_parts (.cons (.var 0) .nil))) 
  (.cons (.ret (.lc [2, 3, 4] [2, 3, 4] false (.seq (.call i_entries (.cons (.var 0) .nil))) (.yes (.cmp .mem (.ix (.var 3) (.con (.int 0))) (.var 1))) (.tup (.cons (.var 2) (.cons (.var 3) .nil))))) .nil))
def f_open_entries : Fn := ⟨"open_entries", 1, ["sheet", "names", "place", "part", "above"], b_open_entries, none⟩
def b_mates_in : Sts := 
  (.cons (.ret (.lc [2, 3] [2, 3] false (.seq (.var 0)) (.yes (.cmp .eq (.sl (.var 2) .no (.yes (.neg (.con (.int 1))))) (.sl (.var 1) .no (.yes (.neg (.con (.int 1))))))) (.var 3))) .nil)
def f_mates_in : Fn := ⟨"mates_in", 2, ["told", "place", "other", "part"], b_mates_in, none⟩
def b_nearest_four : Sts := 
  (.cons (.set 2 (.lst (.cons (.con .non) (.cons (.con .non) (.cons (.con .non) (.cons (.con .non) .nil)))))) 
  (.cons (.set 3 (.lst (.cons (.con .non) (.cons (.con .non) (.cons (.con .non) (.cons (.con .non) .nil)))))) 
  (.cons (.for_ (.nm 4) (.seq (.var 0)) (
   (.cons (.for_ (.tp [5, 6]) (.enum (.call i_nears (.cons (.var 1) (.cons (.ix (.var 4) (.con (.int 1))) .nil)))) (
    (.cons (.ite (.band (.cons (.cmp .notN (.var 6) (.con .non)) (.cons (.bor (.cons (.cmp .isN (.ix (.var 2) (.var 5)) (.con .non)) (.cons (.cmp .lt (.var 6) (.ix (.var 2) (.var 5))) .nil))) .nil))) (
     (.cons (.sub (.var 2) (.var 5) (.var 6)) 
     (.cons (.sub (.var 3) (.var 5) (.ix (.var 4) (.con (.int 0)))) .nil))) (.nil)) .nil))) .nil))) 
  (.cons (.ret (.var 3)) .nil))))
def f_nearest_four : Fn := ⟨"nearest_four", 2, ["some", "box", "best", "found", "part", "side", "near"], b_nearest_four, none⟩
def b_first_inner : Sts := 
  (.cons (.for_ (.tp [2, 3]) (.seq (.var 0)) (
   (.cons (.ite (.cmp .eq (.sl (.var 2) .no (.yes (.neg (.con (.int 1))))) (.var 1)) (
    (.cons (.ret (.ix (.var 3) (.con (.int 0)))) .nil)) (.nil)) .nil))) 
  (.cons (.ret (.con .non)) .nil))
def f_first_inner : Fn := ⟨"first_inner", 2, ["told", "place", "other", "part"], b_first_inner, none⟩
def b_nearest : Sts := 
  (.cons (.drop (.call i_opposite (.cons (.var 2) .nil))) 
  (.cons (.drop (.call i_ask_open (.cons (.var 0) (.cons (.var 1) .nil)))) 
  (.cons (.unp [3, 4, 5] (.call i_entry_of (.cons (.var 0) (.cons (.var 1) .nil)))) 
  (.cons (.ret (.ix (.call i_nearest_four (.cons (.call i_mates_in (.cons (.call i_open_entries (.cons (.var 0) .nil)) (.cons (.var 3) .nil))) (.cons (.ix (.var 4) (.con (.int 1))) .nil))) (.mth .index (.glo "SIDES" (.kt [(.str "up"), (.str "down"), (.str "left"), (.str "right")])) (.cons (.var 2) .nil)))) .nil))))
def f_nearest : Fn := ⟨"nearest", 3, ["sheet", "name", "way", "place", "part", "above"], b_nearest, none⟩
def b_into : Sts := 
  (.cons (.drop (.call i_ask_open (.cons (.var 0) (.cons (.var 1) .nil)))) 
  (.cons (.ret (.call i_first_inner (.cons (.call i_open_entries (.cons (.var 0) .nil)) (.cons (.ix (.call i_entry_of (.cons (.var 0) (.cons (.var 1) .nil))) (.con (.int 0))) .nil)))) .nil))
def f_into : Fn := ⟨"into", 2, ["sheet", "name"], b_into, none⟩
def b_out_of : Sts := 
  (.cons (.drop (.call i_ask_open (.cons (.var 0) (.cons (.var 1) .nil)))) 
  (.cons (.ret (.ix (.bin .add (.lst (.cons (.con .non) .nil)) (.ix (.call i_entry_of (.cons (.var 0) (.cons (.var 1) .nil))) (.con (.int 2)))) (.neg (.con (.int 1))))) .nil))
def f_out_of : Fn := ⟨"out_of", 2, ["sheet", "name"], b_out_of, none⟩
def b_goes : Sts := 
  (.cons (.ite (.cmp .nmem (.var 2) (.glo "KEYS" (.kt [(.str "on"), (.str "back"), (.str "up"), (.str "down"), (.str "left"), (.str "right"), (.str "into"), (.str "out")]))) (
   (.cons (.raise "NoKey" "" .no) .nil)) (.nil)) 
  (.cons (.ite (.cmp .eq (.var 2) (.con (.str "on"))) (
   (.cons (.ret (.call i_on_from (.cons (.var 0) (.cons (.var 1) .nil)))) .nil)) (.nil)) 
  (.cons (.ite (.cmp .eq (.var 2) (.con (.str "back"))) (
   (.cons (.ret (.call i_back_from (.cons (.var 0) (.cons (.var 1) .nil)))) .nil)) (.nil)) 
  (.cons (.ite (.cmp .eq (.var 2) (.con (.str "into"))) (
   (.cons (.ret (.call i_into (.cons (.var 0) (.cons (.var 1) .nil)))) .nil)) (.nil)) 
  (.cons (.ite (.cmp .eq (.var 2) (.con (.str "out"))) (
   (.cons (.ret (.call i_out_of (.cons (.var 0) (.cons (.var 1) .nil)))) .nil)) (.nil)) 
  (.cons (.ret (.call i_nearest (.cons (.var 0) (.cons (.var 1) (.cons (.var 2) .nil))))) .nil))))))
def f_goes : Fn := ⟨"goes", 3, ["sheet", "name", "key"], b_goes, none⟩
def b__law_feed : Sts := 
  (.cons (.ite (.cmp .eq (.blt .len (.cons (.var 0) .nil)) (.con (.int 0))) (
   (.cons (.ret (.lst (.cons (.con (.int 0)) (.cons (.con (.int 0)) (.cons (.var 1) .nil))))) .nil)) (.nil)) 
  (.cons (.ret (.lst (.cons (.ix (.var 0) (.bin .mod (.var 1) (.blt .len (.cons (.var 0) .nil)))) (.cons (.con (.int 0)) (.cons (.var 1) .nil))))) .nil))
def f__law_feed : Fn := ⟨"_law_feed", 2, ["_law_script", "_law_k"], b__law_feed, none⟩
def b__law_next : Sts := 
  (.cons (.sub (.var 0) (.con (.int 1)) (.bin .add (.ix (.var 0) (.con (.int 1))) (.con (.int 1)))) 
  (.cons (.ite (.cmp .ge (.ix (.var 0) (.con (.int 0))) (.bin .pow (.con (.int 10)) (.con (.int 18)))) (
   (.cons (.set 2 (.bin .mod (.ix (.var 0) (.con (.int 0))) (.var 1))) 
   (.cons (.sub (.var 0) (.con (.int 0)) (.bin .fdiv (.ix (.var 0) (.con (.int 0))) (.var 1))) 
   (.cons (.ret (.var 2)) .nil)))) (.nil)) 
  (.cons (.set 3 (.bin .add (.bin .add (.bin .mod (.ix (.var 0) (.con (.int 0))) (.con (.int 1000003))) (.bin .mul (.con (.int 7919)) (.ix (.var 0) (.con (.int 2))))) (.bin .mul (.con (.int 104729)) (.ix (.var 0) (.con (.int 1)))))) 
  (.cons (.set 3 (.bin .mod (.bin .mul (.var 3) (.con (.int 48271))) (.con (.int 2147483647)))) 
  (.cons (.ret (.bin .mod (.bin .mod (.bin .mul (.var 3) (.bin .add (.bin .mod (.var 3) (.con (.int 65521))) (.ix (.var 0) (.con (.int 1))))) (.con (.int 2147483629))) (.var 1))) .nil)))))
def f__law_next : Fn := ⟨"_law_next", 2, ["_law_feed_here", "_law_many", "_law_digit", "_law_mixed"], b__law_next, none⟩
def b__law_rows : Sts := 
  (.cons (.set 1 (.call i__law_feed (.cons (.var 0) (.cons (.con (.int 0)) .nil)))) 
  (.cons (.set 2 (.call i__law_next (.cons (.var 1) (.cons (.con (.int 15)) .nil)))) 
  (.cons (.set 3 (.call i__law_next (.cons (.var 1) (.cons (.con (.int 26)) .nil)))) 
  (.cons (.set 4 (.lst .nil)) 
  (.cons (.set 5 (.bin .sub (.con (.int 0)) (.con (.int 1)))) 
  (.cons (.for_ (.nm 6) (.rng1 (.var 2)) (
   (.cons (.set 1 (.call i__law_feed (.cons (.var 0) (.cons (.bin .add (.con (.int 1)) (.var 6)) .nil)))) 
   (.cons (.set 5 (.call i__law_next (.cons (.var 1) (.cons (.blt .min_ (.cons (.con (.int 5)) (.cons (.bin .add (.var 5) (.con (.int 2))) .nil))) .nil)))) 
   (.cons (.set 7 (.bin .mul (.ix (.con (.str "abcdefghijklmnopqrstuvwxyz")) (.bin .mod (.bin .add (.var 3) (.var 6)) (.con (.int 26)))) (.bin .add (.con (.int 1)) (.bin .mod (.var 3) (.con (.int 8)))))) 
   (.cons (.set 8 (.tup (.cons (.call i__law_next (.cons (.var 1) (.cons (.con (.int 12)) .nil))) (.cons (.call i__law_next (.cons (.var 1) (.cons (.con (.int 12)) .nil))) (.cons (.bin .add (.con (.int 1)) (.call i__law_next (.cons (.var 1) (.cons (.con (.int 3)) .nil)))) (.cons (.bin .add (.con (.int 1)) (.call i__law_next (.cons (.var 1) (.cons (.con (.int 3)) .nil)))) .nil)))))) 
   (.cons (.set 9 (.ix (.lst (.cons (.con (.str "free")) (.cons (.con (.str "free")) (.cons (.con (.str "free")) (.cons (.con (.str "free")) (.cons (.con (.str "free")) (.cons (.con (.str "free")) (.cons (.con (.str "shut")) (.cons (.con (.str "hidden")) .nil))))))))) (.call i__law_next (.cons (.var 1) (.cons (.con (.int 8)) .nil))))) 
   (.cons (.drop (.mth .append (.var 4) (.cons (.tup (.cons (.var 5) (.cons (.var 7) (.cons (.var 8) (.cons (.var 9) (.cons (.ix (.lst (.cons (.con (.int 0)) (.cons (.con (.int 0)) (.cons (.con (.int 1)) (.cons (.con (.int 2)) .nil))))) (.call i__law_next (.cons (.var 1) (.cons (.con (.int 4)) .nil)))) .nil)))))) .nil))) .nil)))))))) 
  (.cons (.ret (.var 4)) .nil)))))))
def f__law_rows : Fn := ⟨"_law_rows", 1, ["_law_script", "_law_feed_here", "_law_many", "_law_turn", "_law_rows_here", "_law_deep", "_law_k", "_law_name", "_law_box", "_law_word"], b__law_rows, none⟩
def b__law_hung : Sts := 
  (.cons (.set 1 (.lc [2] [2] true (.rng1 (.con (.int 6))) .no (.lst .nil))) 
  (.cons (.for_ (.tp [2, 3, 4, 5, 6]) (.rev (.var 0)) (
   (.cons (.set 7 (.blt .tuple_ (.cons (.rev (.ix (.var 1) (.bin .add (.var 2) (.con (.int 1))))) .nil))) 
   (.cons (.sub (.var 1) (.bin .add (.var 2) (.con (.int 1))) (.lst .nil)) 
   (.cons (.drop (.mth .append (.ix (.var 1) (.var 2)) (.cons (.tup (.cons (.var 3) (.cons (.var 4) (.cons (.var 5) (.cons (.var 6) (.cons (.con .non) (.cons (.var 7) .nil))))))) .nil))) .nil))))) 
  (.cons (.ret (.blt .tuple_ (.cons (.rev (.ix (.var 1) (.con (.int 0)))) .nil))) .nil)))
def f__law_hung : Fn := ⟨"_law_hung", 1, ["_law_rows_here", "_law_waiting", "_law_deep", "_law_name", "_law_box", "_law_word", "_law_rank", "_law_parts"], b__law_hung, none⟩
def b__law_first : Sts := 
  (.cons (.set 1 (.lst .nil)) 
  (.cons (.set 2 (.lst .nil)) 
  (.cons (.for_ (.tp [3, 4, 5, 6, 7]) (.seq (.var 0)) (
   (.cons (.set 2 (.bin .add (.sl (.var 2) .no (.yes (.var 3))) (.lst (.cons (.var 6) .nil)))) 
   (.cons (.ite (.blt .all_ (.cons (.lc [8] [8] true (.seq (.var 2)) .no (.cmp .eq (.var 8) (.con (.str "free")))) .nil)) (
    (.cons (.drop (.mth .append (.var 1) (.cons (.tup (.cons (.blt .int_ (.cons (.cmp .eq (.var 7) (.con (.int 0))) .nil)) (.cons (.var 7) (.cons (.blt .len (.cons (.var 1) .nil)) (.cons (.var 4) .nil))))) .nil))) .nil)) (.nil)) .nil)))) 
  (.cons (.ite (.cmp .eq (.var 1) (.lst .nil)) (
   (.cons (.ret (.con .non)) .nil)) (.nil)) 
  (.cons (.ret (.ix (.blt .min_ (.cons (.var 1) .nil)) (.con (.int 3)))) .nil)))))
def f__law_first : Fn := ⟨"_law_first", 1, ["_law_rows_here", "_law_opened", "_law_line", "_law_deep", "_law_name", "_law_box", "_law_word", "_law_rank", "_law_one"], b__law_first, none⟩
def b__law_goal : Sts := 
  (.cons (.ite (.cmp .isN (.var 1) (.con .non)) (
   (.cons (.ret (.con .non)) .nil)) (.nil)) 
  (.cons (.ite (.band (.cons (.cmp .eq (.var 2) (.con (.str "into"))) (.cons (.cmp .mem (.var 1) (.var 3)) .nil))) (
   (.cons (.ret (.ix (.var 3) (.var 1))) .nil)) (.nil)) 
  (.cons (.ret (.call i_goes (.cons (.var 0) (.cons (.var 1) (.cons (.var 2) .nil))))) .nil)))
def f__law_goal : Fn := ⟨"_law_goal", 4, ["_law_sheet", "_law_here", "_law_key", "_law_book"], b__law_goal, none⟩
def b_law : Sts := 
  (.cons (.set 1 (.call i__law_hung (.cons (.call i__law_rows (.cons (.var 0) .nil)) .nil))) 
  (.cons (.set 2 (.call i__law_first (.cons (.call i__law_rows (.cons (.var 0) .nil)) .nil))) 
  (.cons (.set 3 (.new "Walker" i_Walker___init__ (.cons (.var 1) .nil))) 
  (.cons (.set 4 (.dic .nil)) 
  (.cons (.set 5 (.lc [10] [10] true (.seq (.lst (.cons (.var 2) .nil))) (.yes (.cmp .notN (.var 10) (.con .non))) (.var 10))) 
  (.cons (.for_ (.nm 6) (.rng1 (.blt .min_ (.cons (.con (.int 40)) (.cons (.bin .add (.con (.int 3)) (.blt .len (.cons (.var 0) .nil))) .nil)))) (
   (.cons (.ite (.bor (.cons (.cmp .ne (.met "Walker" "stand" i_Walker_stand (.var 3) .nil) (.var 2)) (.cons (.cmp .ne (.met "Walker" "told" i_Walker_told (.var 3) .nil) (.var 5)) (.cons (.cmp .ne (.met "Walker" "sheet" i_Walker_sheet (.var 3) .nil) (.var 1)) .nil)))) (
    (.cons (.ret (.con (.bl false))) .nil)) (.nil)) 
   (.cons (.set 7 (.lst (.cons (.con (.str "on")) (.cons (.con (.str "back")) (.cons (.con (.str "up")) (.cons (.con (.str "down")) (.cons (.con (.str "left")) (.cons (.con (.str "right")) (.cons (.con (.str "into")) (.cons (.con (.str "out")) (.cons (.con (.str "into")) (.cons (.con (.str "out")) .nil)))))))))))) 
   (.cons (.set 8 (.ix (.var 7) (.call i__law_next (.cons (.call i__law_feed (.cons (.var 0) (.cons (.var 6) .nil))) (.cons (.con (.int 10)) .nil))))) 
   (.cons (.set 9 (.call i__law_goal (.cons (.var 1) (.cons (.var 2) (.cons (.var 8) (.cons (.var 4) .nil)))))) 
   (.cons (.ite (.cmp .notN (.var 9) (.con .non)) (
    (.cons (.ite (.cmp .eq (.var 8) (.con (.str "out"))) (
     (.cons (.sub (.var 4) (.var 9) (.var 2)) .nil)) (.nil)) 
    (.cons (.ite (.cmp .ne (.var 9) (.var 2)) (
     (.cons (.drop (.mth .append (.var 5) (.cons (.var 9) .nil))) .nil)) (.nil)) 
    (.cons (.set 2 (.var 9)) .nil)))) (.nil)) 
   (.cons (.ite (.cmp .ne (.met "Walker" "press" i_Walker_press (.var 3) (.cons (.var 8) .nil)) (.var 2)) (
    (.cons (.ret (.con (.bl false))) .nil)) (.nil)) 
   (.cons (.drop (.mth .append (.met "Walker" "told" i_Walker_told (.var 3) .nil) (.cons (.con (.str "a")) .nil))) .nil))))))))) 
  (.cons (.ret (.band (.cons (.cmp .eq (.met "Walker" "stand" i_Walker_stand (.var 3) .nil) (.var 2)) (.cons (.cmp .eq (.met "Walker" "told" i_Walker_told (.var 3) .nil) (.var 5)) (.cons (.cmp .eq (.var 1) (.call i__law_hung (.cons (.call i__law_rows (.cons (.var 0) .nil)) .nil))) .nil))))) .nil)))))))
def f_law : Fn := ⟨"law", 1, ["_law_script", "_law_sheet", "_law_here", "_law_walker", "_law_book", "_law_road", "_law_k", "_law_keys", "_law_key", "_law_goal_here", "_law_one"], b_law, none⟩
def b_Walker___init__ : Sts := 
  (.cons (.att "Walker" (.var 0) "page" (.var 1)) 
  (.cons (.att "Walker" (.var 0) "spot" (.con .non)) 
  (.cons (.att "Walker" (.var 0) "kept" (.dic .nil)) 
  (.cons (.att "Walker" (.var 0) "road" (.lst .nil)) 
  (.cons (.set 2 (.call i_walk (.cons (.var 1) .nil))) 
  (.cons (.ite (.cmp .gt (.blt .len (.cons (.var 2) .nil)) (.con (.int 0))) (
   (.cons (.drop (.met "Walker" "come_to" i_Walker_come_to (.var 0) (.cons (.ix (.var 2) (.con (.int 0))) .nil))) .nil)) (.nil)) .nil))))))
def f_Walker___init__ : Fn := ⟨"__init__", 2, ["self", "sheet", "names"], b_Walker___init__, some "Walker"⟩
def b_Walker_come_to : Sts := 
  (.cons (.ite (.band (.cons (.cmp .notN (.var 1) (.con .non)) (.cons (.cmp .ne (.var 1) (.fld "Walker" (.var 0) "spot")) .nil))) (
   (.cons (.drop (.mth .append (.fld "Walker" (.var 0) "road") (.cons (.var 1) .nil))) .nil)) (.nil)) 
  (.cons (.att "Walker" (.var 0) "spot" (.var 1)) .nil))
def f_Walker_come_to : Fn := ⟨"come_to", 2, ["self", "name"], b_Walker_come_to, some "Walker"⟩
def b_Walker_stand : Sts := 
  (.cons (.ret (.fld "Walker" (.var 0) "spot")) .nil)
def f_Walker_stand : Fn := ⟨"stand", 1, ["self"], b_Walker_stand, some "Walker"⟩
def b_Walker_sheet : Sts := 
  (.cons (.ret (.fld "Walker" (.var 0) "page")) .nil)
def f_Walker_sheet : Fn := ⟨"sheet", 1, ["self"], b_Walker_sheet, some "Walker"⟩
def b_Walker_told : Sts := 
  (.cons (.ret (.blt .list_ (.cons (.fld "Walker" (.var 0) "road") .nil))) .nil)
def f_Walker_told : Fn := ⟨"told", 1, ["self"], b_Walker_told, some "Walker"⟩
def b_Walker_into_kept : Sts := 
  (.cons (.set 1 (.mth .get (.fld "Walker" (.var 0) "kept") (.cons (.fld "Walker" (.var 0) "spot") .nil))) 
  (.cons (.ite (.bor (.cons (.cmp .isN (.var 1) (.con .non)) (.cons (.cmp .nmem (.var 1) (.call i_inner_of (.cons (.fld "Walker" (.var 0) "page") (.cons (.fld "Walker" (.var 0) "spot") .nil)))) (.cons (.not (.call i_is_open (.cons (.fld "Walker" (.var 0) "page") (.cons (.var 1) .nil)))) .nil)))) (
   (.cons (.ret (.con .non)) .nil)) (.nil)) 
  (.cons (.ret (.var 1)) .nil)))
def f_Walker_into_kept : Fn := ⟨"into_kept", 1, ["self", "name"], b_Walker_into_kept, some "Walker"⟩
def b_Walker_press : Sts := 
  (.cons (.ite (.cmp .nmem (.var 1) (.glo "KEYS" (.kt [(.str "on"), (.str "back"), (.str "up"), (.str "down"), (.str "left"), (.str "right"), (.str "into"), (.str "out")]))) (
   (.cons (.raise "NoKey" "" .no) .nil)) (.nil)) 
  (.cons (.ite (.cmp .isN (.fld "Walker" (.var 0) "spot") (.con .non)) (
   (.cons (.ret (.con .non)) .nil)) (.nil)) 
  (.cons (.set 2 (.call i_goes (.cons (.fld "Walker" (.var 0) "page") (.cons (.fld "Walker" (.var 0) "spot") (.cons (.var 1) .nil))))) 
  (.cons (.ite (.band (.cons (.cmp .eq (.var 1) (.con (.str "into"))) (.cons (.cmp .notN (.met "Walker" "into_kept" i_Walker_into_kept (.var 0) .nil) (.con .non)) .nil))) (
   (.cons (.set 2 (.met "Walker" "into_kept" i_Walker_into_kept (.var 0) .nil)) .nil)) (.nil)) 
  (.cons (.ite (.band (.cons (.cmp .eq (.var 1) (.con (.str "out"))) (.cons (.cmp .notN (.var 2) (.con .non)) .nil))) (
   (.cons (.sub (.fld "Walker" (.var 0) "kept") (.var 2) (.fld "Walker" (.var 0) "spot")) .nil)) (.nil)) 
  (.cons (.ite (.cmp .notN (.var 2) (.con .non)) (
   (.cons (.drop (.met "Walker" "come_to" i_Walker_come_to (.var 0) (.cons (.var 2) .nil))) .nil)) (.nil)) 
  (.cons (.ret (.fld "Walker" (.var 0) "spot")) .nil)))))))
def f_Walker_press : Fn := ⟨"press", 2, ["self", "key", "goal"], b_Walker_press, some "Walker"⟩
def T : List Fn := [f_lay_out, f_entries, f_entry_of, f_part_of, f_inner_of, f_words_on, f_first_with, f_why_in, f_why_not, f_is_open, f_ask_open, f_seen_or_open, f_open_parts, f_walk, f_next_to, f_on_from, f_back_from, f_across_of, f_down_of, f_have_common, f_far_apart, f_near_by, f_nears, f_opposite, f_open_entries, f_mates_in, f_nearest_four, f_first_inner, f_nearest, f_into, f_out_of, f_goes, f__law_feed, f__law_next, f__law_rows, f__law_hung, f__law_first, f__law_goal, f_law, f_Walker___init__, f_Walker_come_to, f_Walker_stand, f_Walker_sheet, f_Walker_told, f_Walker_into_kept, f_Walker_press]
def G : Glo := ⟨T, [("FREE", (.str "free")), ("HIDDEN", (.str "hidden")), ("KEYS", (.kt [(.str "on"), (.str "back"), (.str "up"), (.str "down"), (.str "left"), (.str "right"), (.str "into"), (.str "out")])), ("SHUT", (.str "shut")), ("SIDES", (.kt [(.str "up"), (.str "down"), (.str "left"), (.str "right")]))], ["all", "any", "enumerate", "int", "len", "list", "max", "min", "range", "reversed", "sorted", "tuple"], [("OPPOSITES", [("up", (.str "down")), ("down", (.str "up")), ("left", (.str "right")), ("right", (.str "left"))])], [("FocusError", ""), ("NoKey", ""), ("NoPart", "name"), ("NotOpen", "why")], [("Walker", ["page", "spot", "kept", "road"])], false⟩
def d0 : He.DefD := ⟨("lay_out", none), "lay_out", "lay_out", defArgs (top 7), defBody (top 7), defScope (top 7), [], []⟩
theorem ok0 : DefOk G f_lay_out d0 := ⟨rfl, rfl, rfl, fnScB_ok (by decide +kernel), by decide, by decide +kernel, fun _ _ _ _ _ _ us hl => match us, hl with | [_, _, _, _], _ => rfl⟩
def d1 : He.DefD := ⟨("entries", none), "entries", "entries", defArgs (top 8), defBody (top 8), defScope (top 8), [], []⟩
theorem ok1 : DefOk G f_entries d1 := ⟨rfl, rfl, rfl, fnScB_ok (by decide +kernel), by decide, by decide +kernel, fun _ _ _ _ _ _ us hl => match us, hl with | [_], _ => rfl⟩
def d2 : He.DefD := ⟨("entry_of", none), "entry_of", "entry_of", defArgs (top 9), defBody (top 9), defScope (top 9), [], []⟩
theorem ok2 : DefOk G f_entry_of d2 := ⟨rfl, rfl, rfl, fnScB_ok (by decide +kernel), by decide, by decide +kernel, fun _ _ _ _ _ _ us hl => match us, hl with | [_, _], _ => rfl⟩
def d3 : He.DefD := ⟨("part_of", none), "part_of", "part_of", defArgs (top 10), defBody (top 10), defScope (top 10), [], []⟩
theorem ok3 : DefOk G f_part_of d3 := ⟨rfl, rfl, rfl, fnScB_ok (by decide +kernel), by decide, by decide +kernel, fun _ _ _ _ _ _ us hl => match us, hl with | [_, _], _ => rfl⟩
def d4 : He.DefD := ⟨("inner_of", none), "inner_of", "inner_of", defArgs (top 11), defBody (top 11), defScope (top 11), [], []⟩
theorem ok4 : DefOk G f_inner_of d4 := ⟨rfl, rfl, rfl, fnScB_ok (by decide +kernel), by decide, by decide +kernel, fun _ _ _ _ _ _ us hl => match us, hl with | [_, _], _ => rfl⟩
def d5 : He.DefD := ⟨("words_on", none), "words_on", "words_on", defArgs (top 16), defBody (top 16), defScope (top 16), [], []⟩
theorem ok5 : DefOk G f_words_on d5 := ⟨rfl, rfl, rfl, fnScB_ok (by decide +kernel), by decide, by decide +kernel, fun _ _ _ _ _ _ us hl => match us, hl with | [_, _], _ => rfl⟩
def d6 : He.DefD := ⟨("first_with", none), "first_with", "first_with", defArgs (top 17), defBody (top 17), defScope (top 17), [], []⟩
theorem ok6 : DefOk G f_first_with d6 := ⟨rfl, rfl, rfl, fnScB_ok (by decide +kernel), by decide, by decide +kernel, fun _ _ _ _ _ _ us hl => match us, hl with | [_, _, _], _ => rfl⟩
def d7 : He.DefD := ⟨("why_in", none), "why_in", "why_in", defArgs (top 18), defBody (top 18), defScope (top 18), [], []⟩
theorem ok7 : DefOk G f_why_in d7 := ⟨rfl, rfl, rfl, fnScB_ok (by decide +kernel), by decide, by decide +kernel, fun _ _ _ _ _ _ us hl => match us, hl with | [_, _], _ => rfl⟩
def d8 : He.DefD := ⟨("why_not", none), "why_not", "why_not", defArgs (top 19), defBody (top 19), defScope (top 19), [], []⟩
theorem ok8 : DefOk G f_why_not d8 := ⟨rfl, rfl, rfl, fnScB_ok (by decide +kernel), by decide, by decide +kernel, fun _ _ _ _ _ _ us hl => match us, hl with | [_, _], _ => rfl⟩
def d9 : He.DefD := ⟨("is_open", none), "is_open", "is_open", defArgs (top 20), defBody (top 20), defScope (top 20), [], []⟩
theorem ok9 : DefOk G f_is_open d9 := ⟨rfl, rfl, rfl, fnScB_ok (by decide +kernel), by decide, by decide +kernel, fun _ _ _ _ _ _ us hl => match us, hl with | [_, _], _ => rfl⟩
def d10 : He.DefD := ⟨("ask_open", none), "ask_open", "ask_open", defArgs (top 21), defBody (top 21), defScope (top 21), [], []⟩
theorem ok10 : DefOk G f_ask_open d10 := ⟨rfl, rfl, rfl, fnScB_ok (by decide +kernel), by decide, by decide +kernel, fun _ _ _ _ _ _ us hl => match us, hl with | [_, _], _ => rfl⟩
def d11 : He.DefD := ⟨("seen_or_open", none), "seen_or_open", "seen_or_open", defArgs (top 22), defBody (top 22), defScope (top 22), [], []⟩
theorem ok11 : DefOk G f_seen_or_open d11 := ⟨rfl, rfl, rfl, fnScB_ok (by decide +kernel), by decide, by decide +kernel, fun _ _ _ _ _ _ us hl => match us, hl with | [_, _], _ => rfl⟩
def d12 : He.DefD := ⟨("open_parts", none), "open_parts", "open_parts", defArgs (top 23), defBody (top 23), defScope (top 23), [], []⟩
theorem ok12 : DefOk G f_open_parts d12 := ⟨rfl, rfl, rfl, fnScB_ok (by decide +kernel), by decide, by decide +kernel, fun _ _ _ _ _ _ us hl => match us, hl with | [_], _ => rfl⟩
def d13 : He.DefD := ⟨("walk", none), "walk", "walk", defArgs (top 25), defBody (top 25), defScope (top 25), [], []⟩
theorem ok13 : DefOk G f_walk d13 := ⟨rfl, rfl, rfl, fnScB_ok (by decide +kernel), by decide, by decide +kernel, fun _ _ _ _ _ _ us hl => match us, hl with | [_], _ => rfl⟩
def d14 : He.DefD := ⟨("next_to", none), "next_to", "next_to", defArgs (top 26), defBody (top 26), defScope (top 26), [], []⟩
theorem ok14 : DefOk G f_next_to d14 := ⟨rfl, rfl, rfl, fnScB_ok (by decide +kernel), by decide, by decide +kernel, fun _ _ _ _ _ _ us hl => match us, hl with | [_, _, _], _ => rfl⟩
def d15 : He.DefD := ⟨("on_from", none), "on_from", "on_from", defArgs (top 27), defBody (top 27), defScope (top 27), [], []⟩
theorem ok15 : DefOk G f_on_from d15 := ⟨rfl, rfl, rfl, fnScB_ok (by decide +kernel), by decide, by decide +kernel, fun _ _ _ _ _ _ us hl => match us, hl with | [_, _], _ => rfl⟩
def d16 : He.DefD := ⟨("back_from", none), "back_from", "back_from", defArgs (top 28), defBody (top 28), defScope (top 28), [], []⟩
theorem ok16 : DefOk G f_back_from d16 := ⟨rfl, rfl, rfl, fnScB_ok (by decide +kernel), by decide, by decide +kernel, fun _ _ _ _ _ _ us hl => match us, hl with | [_, _], _ => rfl⟩
def d17 : He.DefD := ⟨("across_of", none), "across_of", "across_of", defArgs (top 31), defBody (top 31), defScope (top 31), [], []⟩
theorem ok17 : DefOk G f_across_of d17 := ⟨rfl, rfl, rfl, fnScB_ok (by decide +kernel), by decide, by decide +kernel, fun _ _ _ _ _ _ us hl => match us, hl with | [_], _ => rfl⟩
def d18 : He.DefD := ⟨("down_of", none), "down_of", "down_of", defArgs (top 32), defBody (top 32), defScope (top 32), [], []⟩
theorem ok18 : DefOk G f_down_of d18 := ⟨rfl, rfl, rfl, fnScB_ok (by decide +kernel), by decide, by decide +kernel, fun _ _ _ _ _ _ us hl => match us, hl with | [_], _ => rfl⟩
def d19 : He.DefD := ⟨("have_common", none), "have_common", "have_common", defArgs (top 33), defBody (top 33), defScope (top 33), [], []⟩
theorem ok19 : DefOk G f_have_common d19 := ⟨rfl, rfl, rfl, fnScB_ok (by decide +kernel), by decide, by decide +kernel, fun _ _ _ _ _ _ us hl => match us, hl with | [_, _], _ => rfl⟩
def d20 : He.DefD := ⟨("far_apart", none), "far_apart", "far_apart", defArgs (top 34), defBody (top 34), defScope (top 34), [], []⟩
theorem ok20 : DefOk G f_far_apart d20 := ⟨rfl, rfl, rfl, fnScB_ok (by decide +kernel), by decide, by decide +kernel, fun _ _ _ _ _ _ us hl => match us, hl with | [_, _], _ => rfl⟩
def d21 : He.DefD := ⟨("near_by", none), "near_by", "near_by", defArgs (top 35), defBody (top 35), defScope (top 35), [], []⟩
theorem ok21 : DefOk G f_near_by d21 := ⟨rfl, rfl, rfl, fnScB_ok (by decide +kernel), by decide, by decide +kernel, fun _ _ _ _ _ _ us hl => match us, hl with | [_, _, _], _ => rfl⟩
def d22 : He.DefD := ⟨("nears", none), "nears", "nears", defArgs (top 36), defBody (top 36), defScope (top 36), [], []⟩
theorem ok22 : DefOk G f_nears d22 := ⟨rfl, rfl, rfl, fnScB_ok (by decide +kernel), by decide, by decide +kernel, fun _ _ _ _ _ _ us hl => match us, hl with | [_, _], _ => rfl⟩
def d23 : He.DefD := ⟨("opposite", none), "opposite", "opposite", defArgs (top 40), defBody (top 40), defScope (top 40), [], []⟩
theorem ok23 : DefOk G f_opposite d23 := ⟨rfl, rfl, rfl, fnScB_ok (by decide +kernel), by decide, by decide +kernel, fun _ _ _ _ _ _ us hl => match us, hl with | [_], _ => rfl⟩
def d24 : He.DefD := ⟨("open_entries", none), "open_entries", "open_entries", defArgs (top 41), defBody (top 41), defScope (top 41), [], []⟩
theorem ok24 : DefOk G f_open_entries d24 := ⟨rfl, rfl, rfl, fnScB_ok (by decide +kernel), by decide, by decide +kernel, fun _ _ _ _ _ _ us hl => match us, hl with | [_], _ => rfl⟩
def d25 : He.DefD := ⟨("mates_in", none), "mates_in", "mates_in", defArgs (top 42), defBody (top 42), defScope (top 42), [], []⟩
theorem ok25 : DefOk G f_mates_in d25 := ⟨rfl, rfl, rfl, fnScB_ok (by decide +kernel), by decide, by decide +kernel, fun _ _ _ _ _ _ us hl => match us, hl with | [_, _], _ => rfl⟩
def d26 : He.DefD := ⟨("nearest_four", none), "nearest_four", "nearest_four", defArgs (top 43), defBody (top 43), defScope (top 43), [], []⟩
theorem ok26 : DefOk G f_nearest_four d26 := ⟨rfl, rfl, rfl, fnScB_ok (by decide +kernel), by decide, by decide +kernel, fun _ _ _ _ _ _ us hl => match us, hl with | [_, _], _ => rfl⟩
def d27 : He.DefD := ⟨("first_inner", none), "first_inner", "first_inner", defArgs (top 44), defBody (top 44), defScope (top 44), [], []⟩
theorem ok27 : DefOk G f_first_inner d27 := ⟨rfl, rfl, rfl, fnScB_ok (by decide +kernel), by decide, by decide +kernel, fun _ _ _ _ _ _ us hl => match us, hl with | [_, _], _ => rfl⟩
def d28 : He.DefD := ⟨("nearest", none), "nearest", "nearest", defArgs (top 45), defBody (top 45), defScope (top 45), [], []⟩
theorem ok28 : DefOk G f_nearest d28 := ⟨rfl, rfl, rfl, fnScB_ok (by decide +kernel), by decide, by decide +kernel, fun _ _ _ _ _ _ us hl => match us, hl with | [_, _, _], _ => rfl⟩
def d29 : He.DefD := ⟨("into", none), "into", "into", defArgs (top 46), defBody (top 46), defScope (top 46), [], []⟩
theorem ok29 : DefOk G f_into d29 := ⟨rfl, rfl, rfl, fnScB_ok (by decide +kernel), by decide, by decide +kernel, fun _ _ _ _ _ _ us hl => match us, hl with | [_, _], _ => rfl⟩
def d30 : He.DefD := ⟨("out_of", none), "out_of", "out_of", defArgs (top 47), defBody (top 47), defScope (top 47), [], []⟩
theorem ok30 : DefOk G f_out_of d30 := ⟨rfl, rfl, rfl, fnScB_ok (by decide +kernel), by decide, by decide +kernel, fun _ _ _ _ _ _ us hl => match us, hl with | [_, _], _ => rfl⟩
def d31 : He.DefD := ⟨("goes", none), "goes", "goes", defArgs (top 48), defBody (top 48), defScope (top 48), [], []⟩
theorem ok31 : DefOk G f_goes d31 := ⟨rfl, rfl, rfl, fnScB_ok (by decide +kernel), by decide, by decide +kernel, fun _ _ _ _ _ _ us hl => match us, hl with | [_, _, _], _ => rfl⟩
def d32 : He.DefD := ⟨("_law_feed", none), "_law_feed", "_law_feed", defArgs (top 52), defBody (top 52), defScope (top 52), [], []⟩
theorem ok32 : DefOk G f__law_feed d32 := ⟨rfl, rfl, rfl, fnScB_ok (by decide +kernel), by decide, by decide +kernel, fun _ _ _ _ _ _ us hl => match us, hl with | [_, _], _ => rfl⟩
def d33 : He.DefD := ⟨("_law_next", none), "_law_next", "_law_next", defArgs (top 53), defBody (top 53), defScope (top 53), [], []⟩
theorem ok33 : DefOk G f__law_next d33 := ⟨rfl, rfl, rfl, fnScB_ok (by decide +kernel), by decide, by decide +kernel, fun _ _ _ _ _ _ us hl => match us, hl with | [_, _], _ => rfl⟩
def d34 : He.DefD := ⟨("_law_rows", none), "_law_rows", "_law_rows", defArgs (top 54), defBody (top 54), defScope (top 54), [], []⟩
theorem ok34 : DefOk G f__law_rows d34 := ⟨rfl, rfl, rfl, fnScB_ok (by decide +kernel), by decide, by decide +kernel, fun _ _ _ _ _ _ us hl => match us, hl with | [_], _ => rfl⟩
def d35 : He.DefD := ⟨("_law_hung", none), "_law_hung", "_law_hung", defArgs (top 55), defBody (top 55), defScope (top 55), [], []⟩
theorem ok35 : DefOk G f__law_hung d35 := ⟨rfl, rfl, rfl, fnScB_ok (by decide +kernel), by decide, by decide +kernel, fun _ _ _ _ _ _ us hl => match us, hl with | [_], _ => rfl⟩
def d36 : He.DefD := ⟨("_law_first", none), "_law_first", "_law_first", defArgs (top 56), defBody (top 56), defScope (top 56), [], []⟩
theorem ok36 : DefOk G f__law_first d36 := ⟨rfl, rfl, rfl, fnScB_ok (by decide +kernel), by decide, by decide +kernel, fun _ _ _ _ _ _ us hl => match us, hl with | [_], _ => rfl⟩
def d37 : He.DefD := ⟨("_law_goal", none), "_law_goal", "_law_goal", defArgs (top 57), defBody (top 57), defScope (top 57), [], []⟩
theorem ok37 : DefOk G f__law_goal d37 := ⟨rfl, rfl, rfl, fnScB_ok (by decide +kernel), by decide, by decide +kernel, fun _ _ _ _ _ _ us hl => match us, hl with | [_, _, _, _], _ => rfl⟩
def d38 : He.DefD := ⟨("law", none), "law", "law", defArgs (top 58), defBody (top 58), defScope (top 58), [], []⟩
theorem ok38 : DefOk G f_law d38 := ⟨rfl, rfl, rfl, fnScB_ok (by decide +kernel), by decide, by decide +kernel, fun _ _ _ _ _ _ us hl => match us, hl with | [_], _ => rfl⟩
def d39 : He.DefD := ⟨("Walker", some "__init__"), "__init__", "Walker.__init__", defArgs (topM 50 0), defBody (topM 50 0), defScope (topM 50 0), [], []⟩
theorem ok39 : DefOk G f_Walker___init__ d39 := ⟨rfl, rfl, rfl, fnScB_ok (by decide +kernel), by decide, by decide +kernel, fun _ _ _ _ _ _ us hl => match us, hl with | [_, _], _ => rfl⟩
def d40 : He.DefD := ⟨("Walker", some "come_to"), "come_to", "Walker.come_to", defArgs (topM 50 1), defBody (topM 50 1), defScope (topM 50 1), [], []⟩
theorem ok40 : DefOk G f_Walker_come_to d40 := ⟨rfl, rfl, rfl, fnScB_ok (by decide +kernel), by decide, by decide +kernel, fun _ _ _ _ _ _ us hl => match us, hl with | [_, _], _ => rfl⟩
def d41 : He.DefD := ⟨("Walker", some "stand"), "stand", "Walker.stand", defArgs (topM 50 2), defBody (topM 50 2), defScope (topM 50 2), [], []⟩
theorem ok41 : DefOk G f_Walker_stand d41 := ⟨rfl, rfl, rfl, fnScB_ok (by decide +kernel), by decide, by decide +kernel, fun _ _ _ _ _ _ us hl => match us, hl with | [_], _ => rfl⟩
def d42 : He.DefD := ⟨("Walker", some "sheet"), "sheet", "Walker.sheet", defArgs (topM 50 3), defBody (topM 50 3), defScope (topM 50 3), [], []⟩
theorem ok42 : DefOk G f_Walker_sheet d42 := ⟨rfl, rfl, rfl, fnScB_ok (by decide +kernel), by decide, by decide +kernel, fun _ _ _ _ _ _ us hl => match us, hl with | [_], _ => rfl⟩
def d43 : He.DefD := ⟨("Walker", some "told"), "told", "Walker.told", defArgs (topM 50 4), defBody (topM 50 4), defScope (topM 50 4), [], []⟩
theorem ok43 : DefOk G f_Walker_told d43 := ⟨rfl, rfl, rfl, fnScB_ok (by decide +kernel), by decide, by decide +kernel, fun _ _ _ _ _ _ us hl => match us, hl with | [_], _ => rfl⟩
def d44 : He.DefD := ⟨("Walker", some "into_kept"), "into_kept", "Walker.into_kept", defArgs (topM 50 5), defBody (topM 50 5), defScope (topM 50 5), [], []⟩
theorem ok44 : DefOk G f_Walker_into_kept d44 := ⟨rfl, rfl, rfl, fnScB_ok (by decide +kernel), by decide, by decide +kernel, fun _ _ _ _ _ _ us hl => match us, hl with | [_], _ => rfl⟩
def d45 : He.DefD := ⟨("Walker", some "press"), "press", "Walker.press", defArgs (topM 50 6), defBody (topM 50 6), defScope (topM 50 6), [], []⟩
theorem ok45 : DefOk G f_Walker_press d45 := ⟨rfl, rfl, rfl, fnScB_ok (by decide +kernel), by decide, by decide +kernel, fun _ _ _ _ _ _ us hl => match us, hl with | [_, _], _ => rfl⟩
def ds : List He.DefD := [d0, d1, d2, d3, d4, d5, d6, d7, d8, d9, d10, d11, d12, d13, d14, d15, d16, d17, d18, d19, d20, d21, d22, d23, d24, d25, d26, d27, d28, d29, d30, d31, d32, d33, d34, d35, d36, d37, d38, d39, d40, d41, d42, d43, d44, d45]
theorem oks : DefsOk G G.T ds := .cons ok0 (.cons ok1 (.cons ok2 (.cons ok3 (.cons ok4 (.cons ok5 (.cons ok6 (.cons ok7 (.cons ok8 (.cons ok9 (.cons ok10 (.cons ok11 (.cons ok12 (.cons ok13 (.cons ok14 (.cons ok15 (.cons ok16 (.cons ok17 (.cons ok18 (.cons ok19 (.cons ok20 (.cons ok21 (.cons ok22 (.cons ok23 (.cons ok24 (.cons ok25 (.cons ok26 (.cons ok27 (.cons ok28 (.cons ok29 (.cons ok30 (.cons ok31 (.cons ok32 (.cons ok33 (.cons ok34 (.cons ok35 (.cons ok36 (.cons ok37 (.cons ok38 (.cons ok39 (.cons ok40 (.cons ok41 (.cons ok42 (.cons ok43 (.cons ok44 (.cons ok45 .nil)))))))))))))))))))))))))))))))))))))))))))))
def e0 : He.DefD := ⟨("NoPart", some "__init__"), "__init__", "NoPart.__init__", defArgs (topM 4 0), defBody (topM 4 0), defScope (topM 4 0), [], []⟩
theorem eok0 : IniOk "name" e0 "NoPart" := ⟨rfl, rfl, rfl, "self", "name", fnScB_ok (by decide +kernel), by decide +kernel, fun _ _ _ _ _ _ us hl => match us, hl with | [_, _], _ => rfl⟩
def e1 : He.DefD := ⟨("NotOpen", some "__init__"), "__init__", "NotOpen.__init__", defArgs (topM 5 0), defBody (topM 5 0), defScope (topM 5 0), [], []⟩
theorem eok1 : IniOk "why" e1 "NotOpen" := ⟨rfl, rfl, rfl, "self", "why", fnScB_ok (by decide +kernel), by decide +kernel, fun _ _ _ _ _ _ us hl => match us, hl with | [_, _], _ => rfl⟩
def inis : List Ini := [("NoPart", "name", e0), ("NotOpen", "why", e1)]
theorem inisOk : InisOk inis := .cons eok0 (.cons eok1 .nil)
abbrev dsA : List He.DefD := ds ++ inis.map (·.2.2)
abbrev R : PySem.W.OpenRow := PySem.W.OpenLaw.row PySem.Challenge.rw_focuswalk_k81_keys_pressed
abbrev hk : PySem.W.Hook := hookF 5 G dsA
def ob (s : PySem.W.SharedT) : AlF := obsFG 5 G dsA (HandSHeadRun.getT s)
theorem ob_eq (s : PySem.W.SharedT) : ob s = hk.obs s.abs := obsFG_eq (HandSHeadRun.getT_eq s)
def loose0 : List Str := ["_wall", "FocusError", "NoKey", "NoPart", "NotOpen", "lay_out", "entries", "entry_of", "part_of", "inner_of", "FREE", "SHUT", "HIDDEN", "words_on", "first_with", "why_in", "why_not", "is_open", "ask_open", "seen_or_open"]
def loose1 : List Str := ["open_parts", "walk", "next_to", "on_from", "back_from", "SIDES", "across_of", "down_of", "have_common", "far_apart", "near_by", "nears", "KEYS", "OPPOSITES", "opposite", "open_entries", "mates_in", "nearest_four", "first_inner", "nearest"]
def loose2 : List Str := ["into", "out_of", "goes", "Walker", "_law_feed", "_law_next", "_law_rows", "_law_hung", "_law_first", "_law_goal"]
def loose : List Str := loose0 ++ loose1 ++ loose2
theorem run (w : World) : HandSHeadRun.RunEq R (PySem.W.view R.prog [58]) hk ob 4000 loose w := by
  refine PySem.W.byRow2 "special-get-raises" (P := fun w => HandSHeadRun.RunEq R (PySem.W.view R.prog [58]) hk ob 4000 loose w) (fun w => ?_) (fun w => ?_) w
  · intro os
    kernel_rfl
  · intro os
    kernel_rfl
end K81
open PySem PySem.W PySem.Calls PyProof.Rows in
theorem K81.finish {k : Nat} (hr : L2.Room (2 * k + 1) callerA) (h : ∀ ns : List Int, ns.length ≤ 63 → FW.callF K81.T k 38 [.scr (ns.map FW.Val.int)] (fun _ => none) (fun v _ => v = .bl true) FW.XN) : PySem.Challenge.rw_focuswalk_k81_keys_pressed.Holds := by
  w_on; o_law
  refine HandSHeadRun.head_any (r := OpenLaw.row PySem.Challenge.rw_focuswalk_k81_keys_pressed) (q := view (OpenLaw.row PySem.Challenge.rw_focuswalk_k81_keys_pressed).prog [58]) (H := K81.hk) (ob := K81.ob) (M := 4000) (loose := K81.loose) (d := HandSHeadRun.topDef (OpenLaw.row PySem.Challenge.rw_focuswalk_k81_keys_pressed).prog 58) (kwd := []) K81.ob_eq
    (by kernel_rfl) (fun s => by kernel_rfl) K81.run (by kernel_rfl) (by kernel_rfl) (by kernel_rfl) (by rfl) (by first | assumption | decide +kernel) (by decide +kernel) ⟨rfl, rfl, rfl, rfl, rfl, by decide +kernel⟩ ?hw ?hc
  case hw => w_witness2
  case hc =>
    refine L2.walk_ofE (l := PySem.Challenge.rw_focuswalk_k81_keys_pressed) (n := 63) (k := 2 * k + 1) (x := "_law_script") (CX := FW.CXw PySem.Challenge.rw_focuswalk_k81_keys_pressed.prog) rfl (by decide) (by kernel_rfl) hr ?F (fun _ _ _ _ z => FW.cxw_never z)
    intro w mg fa g Y N hm
    obtain ⟨K, KX, c⟩ := Y
    have hm2 : mg ("law" : PySem.Str) = some (.ref fa) := by
      have e : (HandSHeadRun.topDef (OpenLaw.row PySem.Challenge.rw_focuswalk_k81_keys_pressed).prog 58).name = ("law" : PySem.Str) := by kernel_rfl
      rw [← e]
      exact hm
    have st := c.stands KX N K81.oks K81.inisOk (by decide)
    obtain ⟨d, a, fd, o, pl, F⟩ := st.defs 38 K81.f_law rfl
    have e := hm2.symm.trans pl.1
    cases e
    exact ⟨K, fd, FW.spF K (fun _ => 0) (FW.callF K81.T k) 38, KX, fun s v => L2.FunD.bindsA (ps := ["_law_script"]) F (fun kV doc pm an cdv ct us hl => o.bind kV doc pm an cdv ct us hl) s [v] rfl, fun H a ns hl ho hS => FW.law_sp ho hS (h ns hl), fun base _ _ => FW.fn_cxw (FW.fn_all st rfl k 38 _ d _ fd rfl o F)⟩

set_option Elab.async false
set_option linter.all false
set_option maxRecDepth 100000
namespace K81
open PySem PySem.Spec PyProof.Rows L2 FW
def cellN (ns : List Int) (k : Int) : Int := if ns = [] then 0 else ns.getD (k % (ns.length : Int)).toNat 0
theorem feed_ok {n : Nat} {ns : List Int} {k : Int} {S : Sto} {P : VP} {X : XP} (hk : 0 ≤ k) (h : ∀ (p : Addr), S p = none → P (.ref p) (S.put p (.lst [.int (cellN ns k), .int 0, .int k]))) : callF T (n + 1) i__law_feed [.scr (ns.map .int), .int k] S P X := by
  refine call_is (fn := f__law_feed) rfl rfl ?_
  simp [f__law_feed, b__law_feed]
  by_cases h0 : ns = []
  · subst h0
    simp
    exact fun p hp => h p hp
  · have hl : 0 < ns.length := List.length_pos_iff.mpr h0
    simp [h0]
    refine ⟨by omega, ?_⟩
    unfold cellN at h
    rw [if_neg h0] at h
    have e : k % (ns.length : Int) = ((k % (ns.length : Int)).toNat : Int) := by
      have := Int.emod_nonneg k (show (ns.length : Int) ≠ 0 by omega)
      omega
    have hlt : (k % (ns.length : Int)).toNat < ns.length := by
      have := Int.emod_lt_of_pos k (show (0 : Int) < ns.length by omega)
      omega
    rw [e, atI_natE]
    simp [hlt]
    intro p hp
    have := h p hp
    rw [List.getD_eq_getElem?_getD, List.getElem?_eq_getElem hlt] at this
    exact this
/-- a feed: the cell, how many were drawn, its number -/
structure Fd where
  a : Int
  c : Int
  k : Int
def mixI (a c k : Int) : Int := (a % 1000003 + 7919 * k + 104729 * c) * 48271 % 2147483647
def Fd.v (f : Fd) (m : Int) : Int := if 1000000000000000000 ≤ f.a then f.a % m else mixI f.a (f.c + 1) f.k * (mixI f.a (f.c + 1) f.k % 65521 + (f.c + 1)) % 2147483629 % m
def Fd.n (f : Fd) (m : Int) : Fd := ⟨if 1000000000000000000 ≤ f.a then f.a / m else f.a, f.c + 1, f.k⟩
theorem Fd.b {f : Fd} {m : Int} (h : 0 < m) : 0 ≤ f.v m ∧ f.v m < m := by
  unfold Fd.v
  split <;> exact ⟨Int.emod_nonneg _ (by omega), Int.emod_lt_of_pos _ h⟩
theorem next_ok {n : Nat} {p : Addr} {f : Fd} {many : Int} {S : Sto} {P : VP} {X : XP} (hS : S p = some (.lst [.int f.a, .int f.c, .int f.k])) (hm : 0 < many) (hm2 : many < 10000000000)
    (h : P (.int (f.v many)) (S.put p (.lst [.int (f.n many).a, .int (f.n many).c, .int (f.n many).k]))) : callF T (n + 1) i__law_next [.ref p, .int many] S P X := by
  obtain ⟨a, c, k⟩ := f
  simp only [Fd.v, Fd.n] at h
  refine call_is (fn := f__law_next) rfl rfl ?_
  simp [f__law_next, b__law_next]
  have h1 : ∀ (l : List Val), (S.put p (.lst l)) p = some (.lst l) := fun l => put_same
  refine ix_lst hS rfl ?_
  simp
  refine set_lst hS rfl ?_
  simp
  refine ix_lst (h1 _) rfl ?_
  refine ⟨⟨by decide, by decide, by decide⟩, ?_⟩
  simp
  by_cases h2 : 1000000000000000000 ≤ a
  · rw [if_pos h2, if_pos h2] at h
    refine .inr ⟨h2, ?_⟩
    refine ix_lst (h1 _) rfl ?_
    simp
    refine ⟨hm, ix_lst (h1 _) rfl ?_⟩
    simp
    refine ⟨⟨hm, ?_⟩, ?_⟩
    · exact Nat.lt_of_lt_of_le ((Nat.log2_lt (by omega)).mpr (show many.natAbs < 2 ^ 40 by omega)) (by decide)
    refine set_lst (h1 _) rfl ?_
    simp [put_put]
    exact h
  · rw [if_neg h2, if_neg h2] at h
    refine .inl ⟨by omega, ?_⟩
    refine ix_lst (h1 _) rfl ?_
    simp
    refine ix_lst (h1 _) rfl ?_
    simp
    refine ⟨.inl (.inl (by decide)), ix_lst (h1 _) rfl ?_⟩
    simp
    refine ⟨.inl (.inl (by decide)), .inl (.inr (by decide)), ix_lst (h1 _) rfl ?_⟩
    simp
    refine ⟨.inl (.inl ?_), hm, h⟩
    have := Int.emod_nonneg ((a % 1000003 + 7919 * k + 104729 * (c + 1)) * 48271) (show (2147483647 : Int) ≠ 0 by decide)
    have := Int.emod_lt_of_pos ((a % 1000003 + 7919 * k + 104729 * (c + 1)) * 48271) (show (0 : Int) < 2147483647 by decide)
    constructor <;> omega
/-- the feed f stands at p -/
def FdAt (S : Sto) (p : Addr) (f : Fd) : Prop := S p = some (.lst [.int f.a, .int f.c, .int f.k])
theorem FdAt.ext {S S' : Sto} {p : Addr} {f : Fd} (x : Ext S S') (h : FdAt S p f) : FdAt S' p f := x _ _ h
theorem FdAt.ne {S : Sto} {p q : Addr} {f : Fd} (h : FdAt S p f) (g : S q = none) : q ≠ p := fun z => by
  have h : S p = _ := h
  rw [z, h] at g; cases g
def fd0 (ns : List Int) (k : Int) : Fd := ⟨cellN ns k, 0, k⟩
theorem fd_ok {n : Nat} {ns : List Int} {k : Int} {S : Sto} {P : VP} {X : XP} (hk : 0 ≤ k) (h : ∀ p S', S p = none → Ext S S' → FdAt S' p (fd0 ns k) → P (.ref p) S') : callF T (n + 1) i__law_feed [.scr (ns.map .int), .int k] S P X :=
  feed_ok hk fun p hp => h p _ hp (.new hp) put_same
theorem nx_ok {n : Nat} {p : Addr} {f : Fd} {many : Int} {S : Sto} {P : VP} {X : XP} (hS : FdAt S p f) (hm : 0 < many) (hm2 : many < 10000000000) (h : ∀ S', ExtB p S S' → FdAt S' p (f.n many) → P (.int (f.v many)) S') : callF T (n + 1) i__law_next [.ref p, .int many] S P X :=
  next_ok hS hm hm2 (h _ .put put_same)
end K81

set_option Elab.async false
set_option linter.all false
set_option maxRecDepth 100000
namespace K81
open PySem PySem.Spec PyProof.Rows L2 FW
theorem lay_out_ok : ∀ (n : Nat) (fo : Fo) (anc : List Str) (pl : List Val) (nm td : Addr) (ts0 : List Val) (S : Sto) (P : VP) (X : XP), fo.deep < n → S nm = some (.lst (anc.map .str)) → S td = some (.lst ts0) → nm ≠ td →
    ts0.length + fo.size ≤ 100000 → pl.length + fo.size ≤ 100000 → anc.length + fo.size ≤ 100000 →
    (∀ S' us, ExtB td S S' → S' td = some (.lst (ts0 ++ us)) → EntsAt S' us (lay anc pl 0 fo) → Off (fun a => a ≠ td ∧ (a = nm ∨ S a = none)) us → P .non S') → callF T n i_lay_out [.tup fo.vs, .tup pl, .ref nm, .ref td] S P X
  | 0, fo, anc, pl, nm, td, ts0, S, P, X, hn, hS, hT, hne, b1, b2, b3, h => by omega
  | n + 1, fo, anc, pl, nm, td, ts0, S, P, X, hn, hS, hT, hne, b1, b2, b3, h => by
    refine call_is (fn := f_lay_out) rfl rfl ?_
    simp [f_lay_out, b_lay_out, wkOf]
    refine forL_from (fun r ρ S1 => ∃ (f1 : Fo) (k : Nat) (us : List Val) (done : List Ent) (x y : Option Val), r = enumL f1.vs k ∧ ρ = [some (.tup fo.vs), some (.tup pl), some (.ref nm), some (.ref td), x, y] ∧ ExtB td S S1 ∧ S1 td = some (.lst (ts0 ++ us)) ∧
      EntsAt S1 us done ∧ FW.Off (fun a => a ≠ td ∧ (a = nm ∨ S a = none)) us ∧ done ++ lay anc pl k f1 = lay anc pl 0 fo ∧ f1.size + us.length = fo.size ∧ f1.deep ≤ fo.deep) (fun _ _ _ _ => trivial) ?_ ?_ _ ⟨fo, 0, [], [], none, none, rfl, rfl, .refl, by simpa using hT, .nil, (fun v hv => nomatch hv), rfl, by simp, Nat.le_refl _⟩
    · rintro v r ρ S1 K ⟨f1, k, us, done, x, y, hr, rfl, hx, ht, he, ho, hd, hz, hdp⟩ hK
      cases f1 with
      | nil => simp [Fo.vs, enumL] at hr
      | cons nn b w rr hh cs ts =>
        simp only [Fo.vs, enumL, List.cons.injEq] at hr
        obtain ⟨rfl, rfl⟩ := hr
        simp only [Fo.size] at hz
        simp only [Fo.deep] at hdp
        have hS1 := hx nm _ hne hS
        simp
        refine ⟨.list, by simp [mtTy, ht], by omega, do_app ht (by rw [List.length_append]; omega) ?_⟩
        simp
        refine ⟨by omega, fun q hq => ?_⟩
        have hqt : q ≠ td := fun z => by rw [z, put_same] at hq; cases hq
        have hq1 : S1 q = none := by rw [put_ne hqt] at hq; exact hq
        have hqn : nm ≠ q := fun z => by rw [← z, hS1] at hq1; cases hq1
        refine ⟨_, _, by rw [put_ne hqn, put_ne hne]; exact hS1, by rw [put_same], by simp; omega, fun q2 hq2 => ?_⟩
        have h2t : q2 ≠ td := fun z => by rw [z, put_ne (Ne.symm hqt), put_same] at hq2; cases hq2
        have hq2q : q2 ≠ q := fun z => by rw [z, put_same] at hq2; cases hq2
        have hq21 : S1 q2 = none := by rw [put_ne hq2q, put_ne h2t] at hq2; exact hq2
        let e : Ent := ⟨pl ++ [.int (k : Nat)], nn, b, w, rr, hh, cs, anc⟩
        have eq1 : (anc.map Val.str) ++ [Val.str nn] = (anc ++ [nn]).map Val.str := by simp
        rw [eq1]
        refine lay_out_ok n cs (anc ++ [nn]) (pl ++ [.int (k : Nat)]) q2 td (ts0 ++ (us ++ [.tup [.tup e.pl, e.pv, .ref nm]])) _ _ _ (by omega) put_same ?_ h2t
          (by simp; omega) (by simp; omega) (by simp; omega) fun S2 vs hx2 ht2 he2 ho2 => ?_
        · rw [put_ne (Ne.symm h2t), put_ne (Ne.symm hqt), put_same]; rfl
        have hxa : ExtB td S1 S2 := (((ExtB.put (p := td)).trans (.of (.new hq))).trans (.of (.new hq2))).trans hx2
        refine hK _ _ ⟨ts, k + 1, us ++ [.tup [.tup e.pl, e.pv, .ref nm]] ++ vs, done ++ [e] ++ lay (anc ++ [nn]) (pl ++ [.int (k : Nat)]) 0 cs, _, _, rfl, rfl, hx.trans hxa, ?_, ?_, ?_, ?_, ?_, by omega⟩
        · rw [ht2]; simp
        · exact ((he.off hxa (ho.imp fun a h => h.1)).append (.cons ⟨nm, rfl, hxa nm _ hne hS1⟩ .nil)).append he2
        · refine (ho.app fun v hv => ?_).app (ho2.imp fun a h => ⟨h.1, .inr ?_⟩)
          · rw [List.mem_singleton.mp hv]
            exact ⟨_, _, nm, rfl, hne, .inl rfl⟩
          · rcases h.2 with z | z
            · rw [z]; exact hx.none h2t hq21
            · exact hx.none h.1 ((((ExtB.put (p := td)).trans (.of (.new hq))).trans (.of (.new hq2))).none h.1 z)
        · rw [← hd]
          simp [lay, e]
        · have := he2.len
          rw [lay_len] at this
          simp; omega
    · rintro ρ S1 ⟨f1, k, us, done, x, y, hr, rfl, hx, ht, he, ho, hd, hz, hdp⟩
      cases f1 with
      | nil =>
        simp [lay] at hd
        subst hd
        exact h S1 us hx ht he ho
      | cons => simp [Fo.vs, enumL] at hr
end K81

set_option Elab.async false
set_option linter.all false
set_option maxRecDepth 100000
namespace K81
open PySem PySem.Spec PyProof.Rows L2 FW
theorem entries_ok {n : Nat} {fo : Fo} {S : Sto} {P : VP} {X : XP} (hd : fo.deep < n) (hz : fo.size ≤ 1000) (h : ∀ S' td us, Ext S S' → S td = none → S' td = some (.lst us) → EntsAt S' us (ents fo) → FW.Off (fun a => S a = none ∧ a ≠ td) us → P (.ref td) S') :
    callF T (n + 1) i_entries [.tup fo.vs] S P X := by
  refine call_is (fn := f_entries) rfl rfl ?_
  simp [f_entries, b_entries]
  intro td htd p hp
  have hpt : p ≠ td := fun z => by rw [z, put_same] at hp; cases hp
  have e1 : ([] : List Val) = ([] : List Str).map .str := rfl
  refine lay_out_ok n fo [] [] p td [] _ _ _ hd (by rw [put_same]; rfl) ?_ hpt (by simp; omega) (by simp; omega) (by simp; omega) fun S' us hx ht he ho => ?_
  · rw [put_ne (Ne.symm hpt), put_same]
  · have x1 : ExtB td S S' := ((ExtB.of (.new htd)).trans (.of (.new hp))).trans hx
    refine h S' td us (x1.ext htd) htd (by simpa using ht) he (ho.imp fun a q => ⟨?_, q.1⟩)
    rcases q.2 with z | z
    · rw [z]; exact (Ext.new htd).none hp
    · exact ((Ext.new htd).trans (.new hp)).none z
theorem seen_ok {n : Nat} {fo : Fo} {only : Bool} {S : Sto} {P : VP} {X : XP} (hd : fo.deep < n) (hz : fo.size ≤ 1000) (h : ∀ S' p, Ext S S' → S p = none → S' p = some (.lst ((sees only (ents fo) [] []).1.map .str)) → P (.ref p) S') :
    callF T (n + 2) i_seen_or_open [.tup fo.vs, .bl only] S P X := by
  refine call_is (fn := f_seen_or_open) rfl rfl ?_
  simp [f_seen_or_open, b_seen_or_open]
  intro p hp q hq
  have hqp : q ≠ p := fun z => by rw [z, put_same] at hq; cases hq
  refine entries_ok hd hz fun S1 td us hx htd ht he ho => ?_
  have htp : td ≠ p := fun z => by rw [z, put_ne (Ne.symm hqp), put_same] at htd; cases htd
  have htq : td ≠ q := fun z => by rw [z, put_same] at htd; cases htd
  refine semSeq_ref ht ?_
  have hlen : (ents fo).length = fo.size := lay_len _ _ _ _
  refine forL_from (fun r ρ S2 => ∃ (es : List Ent) (f s : List Str) (x4 x5 x6 : Option Val), EntsAt S2 r es ∧ (∀ e ∈ es, e.anc.length ≤ 1000) ∧ sees only es f s = sees only (ents fo) [] [] ∧ ρ = [some (.tup fo.vs), some (.bl only), some (.ref p), some (.ref q), x4, x5, x6, none] ∧
    Ext S S2 ∧ S2 p = some (.lst (f.map .str)) ∧ S2 q = some (.lst (s.map .str)) ∧ S2 td = some (.lst us) ∧ es.length + f.length + s.length ≤ 1000 ∧ FW.Off (fun a => a ≠ p ∧ a ≠ q) r) ?_ ?_ ?_ _ ?_
  · rintro r ρ S2 ⟨es, f, s, x4, x5, x6, h1, hb, h2, rfl, h3, h4, h5, h6, _⟩
    exact h6
  · rintro v r ρ S2 K ⟨es, f, s, x4, x5, x6, h1, hb, h2, rfl, h3, h4, h5, h6, h7, h8⟩ hK
    obtain ⟨e, es, rfl, ⟨a, rfl, ha⟩, hr⟩ := h1.cons_inv
    obtain ⟨⟨hap, haq⟩, h8⟩ := h8.at
    simp only [List.length_cons] at h7
    have hany : ∀ (ρ : FW.Env) (Q : VP), 7 < ρ.length → ρ[6]? = some (some (.ref a)) → ρ[3]? = some (some (.ref q)) → (∀ S3, Ext S2 S3 → Q (.bl (e.anc.any fun x => decide (x ∈ s))) S3) →
        ev (callF T (n + 1)) (.lc [7] [7] true (.seq (.var 6)) .no (.cmp .mem (.var 7) (.var 3))) ρ S2 (fun v S1 => semBi .any_ [v] S1 Q) X := by
      intro ρ Q rl r6 r3 hQ
      rw [ev_lc]
      simp [r6]
      refine semSeq_ref ha ?_
      refine lcLoop_pure (fun v => some (.bl (memW v (s.map .str)))) ha _ _ ?_ ?_ ?_
      · have := hb e List.mem_cons_self
        simp; omega
      · intro v hv K2 hK2
        obtain ⟨x, hx, rfl⟩ := List.mem_map.mp hv
        simp [lcTurn, lcTg, r3]
        refine ⟨_, by rw [List.getElem?_set_self rl], ?_⟩
        exact in_flat (S := S2) (P := fun b => K2 (some (.bl b)) S2) (x := .str x) (w := .ref q) (vs := s.map .str) (fun z q => nomatch q) (by simp [h5]) rfl (flats_str s) hK2
      · intro z hz
        have e1 : [] ++ List.filterMap (fun v => some (Val.bl (memW v (s.map .str)))) (e.anc.map .str) = (e.anc.map fun x => decide (x ∈ s)).map Val.bl := by
          simp [Function.comp_def, memW_str]
        rw [e1]
        refine bi_any (bs := e.anc.map fun x => decide (x ∈ s)) put_same ?_
        have e2 : (e.anc.map fun x => decide (x ∈ s)).any id = e.anc.any fun x => decide (x ∈ s) := by rw [List.any_map]; rfl
        rw [e2]
        exact hQ _ (.new hz)
    have fin1 : ∀ S3, Ext S2 S3 → (decide (e.w ≠ "free") && (only || decide (e.w = "hidden")) || e.anc.any fun x => decide (x ∈ s)) = false → ∀ (ρ : FW.Env), ρ = [some (.tup fo.vs), some (.bl only), some (.ref p), some (.ref q), some (.tup e.pl), some e.pv, some (.ref a), none] →
        ∃ T, mtTy .append (.ref p) S3 = some T ∧ semMt .append T (.ref p) [.str e.n] S3 fun _ S1 => K ρ S1 := by
      intro S3 x3 hc ρ hρ
      subst hρ
      refine mt_app (x3 _ _ h4) (do_app (x3 _ _ h4) (by simp; omega) (hK _ _ ⟨es, f ++ [e.n], s, _, _, _, ?_, fun z hz => hb z (List.mem_cons_of_mem _ hz), ?_, rfl, ?_, ?_, ?_, ?_, by simp; omega, h8⟩))
      · exact (hr.ext x3).off .put (h8.imp fun a z => z.1)
      · rw [← h2, sees, if_neg (by rw [hc]; simp)]
      · exact (ExtB.trans (.of (h3.trans x3)) .put).ext hp
      · rw [put_same]; simp
      · rw [put_ne hqp]; exact x3 _ _ h5
      · rw [put_ne htp]; exact x3 _ _ h6
    have fin2 : ∀ S3, Ext S2 S3 → (decide (e.w ≠ "free") && (only || decide (e.w = "hidden")) || e.anc.any fun x => decide (x ∈ s)) = true → ∀ (ρ : FW.Env), ρ = [some (.tup fo.vs), some (.bl only), some (.ref p), some (.ref q), some (.tup e.pl), some e.pv, some (.ref a), none] →
        ∃ T, mtTy .append (.ref q) S3 = some T ∧ semMt .append T (.ref q) [.str e.n] S3 fun _ S1 => K ρ S1 := by
      intro S3 x3 hc ρ hρ
      subst hρ
      refine mt_app (x3 _ _ h5) (do_app (x3 _ _ h5) (by simp; omega) (hK _ _ ⟨es, f, s ++ [e.n], _, _, _, ?_, fun z hz => hb z (List.mem_cons_of_mem _ hz), ?_, rfl, ?_, ?_, ?_, ?_, by simp; omega, h8⟩))
      · exact (hr.ext x3).off .put (h8.imp fun a z => z.2)
      · rw [← h2, sees, if_pos hc]
      · exact (ExtB.trans (.of (h3.trans x3)) .put).ext ((Ext.new hp).none hq)
      · rw [put_ne (Ne.symm hqp)]; exact x3 _ _ h4
      · rw [put_same]; simp
      · rw [put_ne htq]; exact x3 _ _ h6
    have both : (decide (e.w ≠ "free") && (only || decide (e.w = "hidden"))) = false → ∀ (ρ : FW.Env), ρ = [some (.tup fo.vs), some (.bl only), some (.ref p), some (.ref q), some (.tup e.pl), some e.pv, some (.ref a), none] →
        ev (callF T (n + 1)) (.lc [7] [7] true (.seq (.var 6)) .no (.cmp .mem (.var 7) (.var 3))) ρ S2 (fun v S1 => semBi .any_ [v] S1 fun v S1 =>
          (v = .bl false ∧ ∃ T, mtTy .append (.ref p) S1 = some T ∧ semMt .append T (.ref p) [.str e.n] S1 fun _ S1 => K ρ S1) ∨ (v = .bl true ∧ ∃ T, mtTy .append (.ref q) S1 = some T ∧ semMt .append T (.ref q) [.str e.n] S1 fun _ S1 => K ρ S1)) X := by
      intro hc ρ hρ
      refine hany ρ _ (by rw [hρ]; simp) (by rw [hρ]; rfl) (by rw [hρ]; rfl) fun S3 x3 => ?_
      cases hb : e.anc.any fun x => decide (x ∈ s) with
      | false => exact .inl ⟨rfl, fin1 S3 x3 (by rw [hc, hb]; rfl) ρ hρ⟩
      | true => exact .inr ⟨rfl, fin2 S3 x3 (by rw [hc, hb]; rfl) ρ hρ⟩
    by_cases hw : e.w = "free"
    · simp [Ent.pv]
      exact .inl ⟨hw, both (by simp [hw]) _ rfl⟩
    · cases honly : only with
      | true =>
        subst honly
        simp [Ent.pv]
        exact .inr ⟨hw, fin2 S2 .refl (by simp [hw]) _ rfl⟩
      | false =>
        subst honly
        simp [Ent.pv]
        by_cases hh : e.w = "hidden"
        · exact .inr ⟨hw, .inr ⟨hh, fin2 S2 .refl (by rw [decide_eq_true hh, show decide (e.w ≠ "free") = true from decide_eq_true hw]; rfl) _ rfl⟩⟩
        · exact .inr ⟨hw, .inl ⟨hh, both (by simp [hh]) _ rfl⟩⟩
  · rintro ρ S2 ⟨es, f, s, x4, x5, x6, h1, hb, h2, rfl, h3, h4, h5, h6, _⟩
    cases h1
    simp
    refine h S2 p h3 hp ?_
    rw [h4, ← h2]; rfl
  · refine ⟨ents fo, [], [], none, none, none, he, fun e h => Nat.le_trans (ents_anc h) hz, rfl, rfl, ((Ext.new hp).trans (.new hq)).trans hx, ?_, ?_, ht, by simp; omega, ho.imp fun a z => ⟨?_, ?_⟩⟩
    · exact hx p _ (by rw [put_ne (Ne.symm hqp), put_same]; rfl)
    · exact hx q _ put_same
    · intro e
      have z := z.1
      rw [e, put_ne (Ne.symm hqp), put_same] at z
      cases z
    · intro e
      have z := z.1
      rw [e, put_same] at z
      cases z
theorem open_ok {n : Nat} {fo : Fo} {S : Sto} {P : VP} {X : XP} (hd : fo.deep < n) (hz : fo.size ≤ 1000) (h : ∀ S' p, Ext S S' → S p = none → S' p = some (.lst ((opens fo).map .str)) → P (.ref p) S') :
    callF T (n + 3) i_open_parts [.tup fo.vs] S P X := by
  refine call_is (fn := f_open_parts) rfl rfl ?_
  simp [f_open_parts, b_open_parts]
  exact seen_ok hd hz h
end K81

set_option Elab.async false
set_option linter.all false
set_option maxRecDepth 100000
namespace K81
open PySem PySem.Spec PyProof.Rows L2 FW
theorem nodup_at {es done : List Ent} {e : Ent} {r : List Ent} (nd : (es.map Ent.n).Nodup) (h : done ++ e :: r = es) : e.n ∉ done.map Ent.n := by
  rw [← h, List.map_append, List.map_cons] at nd
  intro z
  exact (List.nodup_append.mp nd).2.2 _ z _ List.mem_cons_self rfl
theorem walk_ok {n : Nat} {fo : Fo} {S : Sto} {P : VP} {X : XP} (hd : fo.deep < n) (hz : fo.size ≤ 1000) (nd : ((ents fo).map Ent.n).Nodup) (h : ∀ S' p, Ext S S' → S p = none → S' p = some (.lst ((walkF fo).map .str)) → P (.ref p) S') :
    callF T (n + 4) i_walk [.tup fo.vs] S P X := by
  refine call_is (fn := f_walk) rfl rfl ?_
  simp [f_walk, b_walk]
  intro d hd0
  refine entries_ok (n := n + 2) (by omega) hz fun S1 td us hx htd ht he ho => ?_
  have hlen : (ents fo).length = fo.size := lay_len _ _ _ _
  have dtd : td ≠ d := fun z => by rw [z, put_same] at htd; cases htd
  refine semSeq_ref ht ?_
  refine forL_from (fun r ρ S2 => ∃ (done es : List Ent) (x2 x3 x4 : Option Val), EntsAt S2 r es ∧ done ++ es = ents fo ∧ ρ = [some (.tup fo.vs), some (.ref d), x2, x3, x4, none, none, none, none] ∧ ExtB d S1 S2 ∧ S2 d = some (.dic (kvs (fun e => .int e.r) done)) ∧ S2 td = some (.lst us) ∧
    FW.Off (fun a => a ≠ d) r) ?_ ?_ ?_ _ ?_
  · rintro r ρ S2 ⟨done, es, x2, x3, x4, h1, h2, rfl, h3, h4, h5, h6⟩
    exact h5
  · rintro v r ρ S2 K ⟨done, es, x2, x3, x4, h1, h2, rfl, h3, h4, h5, h6⟩ hK
    obtain ⟨e, es, rfl, ⟨a, rfl, ha⟩, hr⟩ := h1.cons_inv
    simp [Ent.pv]
    have hb : done.length + es.length + 1 = fo.size := by
      have := congrArg List.length h2
      simp [hlen] at this; omega
    refine set_dic h4 (kvs_suits _ _ _) (by unfold kvs; simp; omega) (hK _ _ ⟨done ++ [e], es, _, _, _, ?_, by simp [h2], rfl, h3.trans .put, ?_, ?_, h6.at.2⟩)
    · exact hr.off .put h6.at.2
    · rw [put_same]
      exact congrArg (fun z => some (Ob.dic z)) (kvs_put (fun e => .int e.r) done e (nodup_at nd h2))
    · rw [put_ne dtd]; exact h5
  · rintro ρ S2 ⟨done, es, x2, x3, x4, h1, h2, rfl, h3, h4, h5, h6⟩
    cases h1
    rw [List.append_nil] at h2
    subst h2
    simp
    intro rk hrk
    have hrd : rk ≠ d := fun z => by rw [z, h4] at hrk; cases hrk
    have dk : (S2.put rk (.lst [])) d = some (.dic (kvs (fun e => .int e.r) (ents fo))) := by rw [put_ne (Ne.symm hrd)]; exact h4
    refine open_ok (n := n) hd hz fun S3 p hx3 hp hp3 => ?_
    have prk : p ≠ rk := fun z => by rw [z, put_same] at hp; cases hp
    have hol : (opens fo).length ≤ fo.size := by
      have := sees_len true (ents fo) [] []
      simp at this; rw [hlen] at this
      show (sees true (ents fo) [] []).1.length ≤ fo.size
      omega
    refine ⟨⟨enumL ((opens fo).map .str) 0, some (p, (opens fo).map .str), none, none⟩, by simp [wkOf, hp3], ?_⟩
    refine forL_from (fun r ρ S4 => ∃ (xs ys : List Str) (x6 x7 : Option Val), xs ++ ys = opens fo ∧ r = enumL (ys.map .str) xs.length ∧ ρ = [some (.tup fo.vs), some (.ref d), x2, x3, x4, some (.ref rk), x6, x7, none] ∧ ExtB rk S3 S4 ∧ S4 rk = some (.lst (quads (ents fo) 0 xs))) ?_ ?_ ?_ _ ?_
    · rintro r ρ S4 ⟨xs, ys, x6, x7, g1, rfl, rfl, g2, g3⟩
      exact g2 _ _ prk hp3
    · rintro v r ρ S4 K ⟨xs, ys, x6, x7, g1, g0, rfl, g2, g3⟩ hK
      cases ys with
      | nil => simp [enumL] at g0
      | cons y ys =>
        simp only [List.map_cons, enumL, List.cons.injEq] at g0
        obtain ⟨rfl, rfl⟩ := g0
        have hy : y ∈ (ents fo).map Ent.n := opens_sub (by rw [← g1]; simp)
        obtain ⟨e, he1, he2, he3⟩ := at_mem hy
        have rk_y : rkOf (ents fo) y = e.r := by unfold rkOf; rw [he1]; rfl
        have d4 : S4 d = some (.dic (kvs (fun e => .int e.r) (ents fo))) := g2 _ _ (Ne.symm hrd) (hx3 _ _ dk)
        have gl : xs.length + ys.length + 1 ≤ 1000 := by
          have := congrArg List.length g1
          simp at this; omega
        have get : ∀ Q : VP, Q (.int e.r) S4 → semIx (.ref d) (.str y) S4 Q := fun Q q => ix_dic d4 (kvs_suits _ _ _) (by rw [kvs_get, he1]; rfl) q
        simp
        refine ⟨.list, by simp [mtTy, g3], get _ ?_⟩
        simp
        refine get _ (do_app g3 (by rw [quads_len]; omega) (hK _ _ ⟨xs ++ [y], ys, _, _, by simp [g1], by simp, rfl, g2.trans .put, ?_⟩))
        rw [put_same, quads_app]
        simp [quads, quad, rk_y]
    · rintro ρ S4 ⟨xs, ys, x6, x7, g1, g0, rfl, g2, g3⟩
      have hy : ys = [] := by
        cases ys with
        | nil => rfl
        | cons y ys => simp [enumL] at g0
      subst hy
      rw [List.append_nil] at g1
      subst g1
      simp [ev_lc]
      refine ⟨_, by simp [g3]; rfl, quads_purs, quads_alike, quads_sortable, quads_depth, fun so hso => semSeq_ref put_same ?_⟩
      refine lcLoop_pure (fun v => some (.str (fourth v))) put_same _ _ ?_ ?_ ?_
      · simp [quads_len]; omega
      · intro v hv K hK
        obtain ⟨j, x, rfl, _⟩ := quads_mem ((List.mergeSort_perm _ _).mem_iff.mp hv)
        simp [lcTurn, lcTg, quad]
        exact hK
      · intro p hp
        have x4 : Ext S S4 := ((((ExtB.of (.new hd0)).trans (.of hx)).trans h3).ext hd0).trans (((ExtB.of (.new hrk)).trans ((ExtB.of hx3).trans g2)).ext hrk)
        refine h _ p ((x4.trans (.new hso)).trans (.new hp)) (x4.none ((Ext.new hso).none hp)) ?_
        rw [put_same]
        simp [walkF, Function.comp_def]
    · exact ⟨[], opens fo, none, none, rfl, rfl, rfl, .refl, hx3 _ _ (by rw [put_same]; rfl)⟩
  · refine ⟨[], ents fo, none, none, none, he, rfl, rfl, .refl, hx _ _ (by rw [put_same]; rfl), ht, ho.imp fun a z e => ?_⟩
    have z := z.1
    rw [e, put_same] at z
    cases z
end K81

set_option Elab.async false
set_option linter.all false
set_option maxRecDepth 100000
namespace K81
open PySem PySem.Spec PyProof.Rows L2 FW
def wordRow (es : List Ent) (x : Str) : Val := .tup [.str x, .str (wdOf es x)]
theorem words_on_ok {n : Nat} {fo : Fo} {td : Addr} {us : List Val} {v : Val} {e : Ent} {S : Sto} {P : VP} {X : XP} (hz : fo.size ≤ 1000) (nd : ((ents fo).map Ent.n).Nodup) (ht : S td = some (.lst us)) (he : EntsAt S us (ents fo)) (hv : EntAt S v e) (hm : e ∈ ents fo)
    (h : ∀ S' p, Ext S S' → S p = none → S' p = some (.lst ((e.anc ++ [e.n]).map (wordRow (ents fo)))) → P (.ref p) S') : callF T (n + 1) i_words_on [.ref td, v] S P X := by
  obtain ⟨a, rfl, ha⟩ := hv
  refine call_is (fn := f_words_on) rfl rfl ?_
  simp [f_words_on, b_words_on]
  intro d hd
  have dtd : td ≠ d := fun z => by rw [z, hd] at ht; cases ht
  have hlen : (ents fo).length = fo.size := lay_len _ _ _ _
  refine semSeq_ref (by rw [put_ne dtd]; exact ht) ?_
  refine forL_from (fun r ρ S2 => ∃ (done es : List Ent) (x2 x3 x4 : Option Val), EntsAt S2 r es ∧ done ++ es = ents fo ∧ ρ = [some (.ref td), some (.tup [.tup e.pl, e.pv, .ref a]), some (.ref d), x2, x3, x4, none] ∧ ExtB d S S2 ∧ S2 d = some (.dic (kvs (fun e => .str e.w) done)) ∧
    FW.Off (fun a => a ≠ d) r) ?_ ?_ ?_ _ ?_
  · rintro r ρ S2 ⟨done, es, x2, x3, x4, h1, h2, rfl, h3, h4, h6⟩
    exact h3 _ _ dtd ht
  · rintro v r ρ S2 K ⟨done, es, x2, x3, x4, h1, h2, rfl, h3, h4, h6⟩ hK
    obtain ⟨e, es, rfl, ⟨a, rfl, ha⟩, hr⟩ := h1.cons_inv
    simp [Ent.pv]
    have hb : done.length + es.length + 1 = fo.size := by
      have := congrArg List.length h2
      simp [hlen] at this; omega
    refine set_dic h4 (kvs_suits _ _ _) (by unfold kvs; simp; omega) (hK _ _ ⟨done ++ [e], es, _, _, _, ?_, by simp [h2], rfl, h3.trans .put, ?_, h6.at.2⟩)
    · exact hr.off .put h6.at.2
    · rw [put_same]
      exact congrArg (fun z => some (Ob.dic z)) (kvs_put (fun e => .str e.w) done e (nodup_at nd h2))
  · rintro ρ S2 ⟨done, es, x2, x3, x4, h1, h2, rfl, h3, h4, h6⟩
    cases h1
    rw [List.append_nil] at h2
    subst h2
    have had : a ≠ d := fun z => by rw [z, hd] at ha; cases ha
    have hal := ents_anc hm
    simp [ev_lc, Ent.pv]
    intro q hq
    have hqa : a ≠ q := fun z => by rw [← z, h3 _ _ had ha] at hq; cases hq
    have hqd : d ≠ q := fun z => by rw [← z, h4] at hq; cases hq
    refine ⟨_, _, by rw [put_ne hqa]; exact h3 _ _ had ha, put_same, by simp; omega, fun q2 hq2 => semSeq_ref put_same ?_⟩
    have hq2q : q2 ≠ q := fun z => by rw [z, put_same] at hq2; cases hq2
    have hqd2 : d ≠ q2 := fun z => by rw [← z, put_ne hqd, h4] at hq2; cases hq2
    have eq1 : e.anc.map Val.str ++ [Val.str e.n] = (e.anc ++ [e.n]).map Val.str := by simp
    rw [eq1]
    refine lcLoop_pure (fun v => match v with | .str x => some (wordRow (ents fo) x) | _ => none) put_same _ _ (by simp; omega) ?_ ?_
    · intro v hv K hK
      obtain ⟨x, hx, rfl⟩ := List.mem_map.mp hv
      have hxm : x ∈ (ents fo).map Ent.n := by
        rcases List.mem_append.mp hx with hx | hx
        · exact ents_anc_mem hm hx
        · rw [List.mem_singleton.mp hx]; exact List.mem_map.mpr ⟨e, hm, rfl⟩
      obtain ⟨e2, k1, k2, k3⟩ := at_mem hxm
      simp [lcTurn, lcTg]
      refine ix_dic (by rw [put_ne hqd2, put_ne hqd]; exact h4) (kvs_suits _ _ _) (by rw [kvs_get, k1]; rfl) ?_
      have : wdOf (ents fo) x = e2.w := by unfold wdOf; rw [k1]; rfl
      simp [wordRow, this] at hK
      simpa using hK
    · intro p hp
      refine h _ p (((ExtB.ext h3 hd).trans ((Ext.new hq).trans (.new hq2))).trans (.new hp)) ?_ ?_
      · exact ((ExtB.ext h3 hd).trans ((Ext.new hq).trans (.new hq2))).none hp
      · rw [put_same]
        simp [Function.comp_def]
  · refine ⟨[], ents fo, none, none, none, ?_, rfl, rfl, .of (.new hd), put_same, ?_⟩
    · exact he.ext (.new hd)
    · exact he.offNone hd
theorem first_with_ok {n : Nat} {fo : Fo} {td : Addr} {us : List Val} {v : Val} {e : Ent} {w : Str} {S : Sto} {P : VP} {X : XP} (hz : fo.size ≤ 1000) (nd : ((ents fo).map Ent.n).Nodup) (ht : S td = some (.lst us)) (he : EntsAt S us (ents fo)) (hv : EntAt S v e) (hm : e ∈ ents fo)
    (h : ∀ S', Ext S S' → P (optV (firstW (ents fo) w (e.anc ++ [e.n]))) S') : callF T (n + 2) i_first_with [.ref td, v, .str w] S P X := by
  refine call_is (fn := f_first_with) rfl rfl ?_
  simp [f_first_with, b_first_with]
  refine words_on_ok hz nd ht he hv hm fun S1 p hx hp hp1 => semSeq_ref hp1 ?_
  refine forL_from (fun r ρ S2 => ∃ (xs : List Str) (x3 x4 : Option Val), r = xs.map (wordRow (ents fo)) ∧ ρ = [some (.ref td), some v, some (.str w), x3, x4] ∧ S2 = S1 ∧ firstW (ents fo) w xs = firstW (ents fo) w (e.anc ++ [e.n])) ?_ ?_ ?_ _ ⟨_, none, none, rfl, rfl, rfl, rfl⟩
  · rintro r ρ S2 ⟨xs, x3, x4, h1, rfl, rfl, h2⟩
    exact hp1
  · rintro u r ρ S2 K ⟨xs, x3, x4, h1, rfl, rfl, h2⟩ hK
    cases xs with
    | nil => cases h1
    | cons x xs =>
      simp only [List.map_cons, List.cons.injEq] at h1
      obtain ⟨rfl, rfl⟩ := h1
      simp [wordRow]
      by_cases hw : wdOf (ents fo) x = w
      · right
        refine ⟨hw, ?_⟩
        have := h S2 hx
        rw [← h2] at this
        unfold firstW at this
        rw [List.find?_cons, decide_eq_true hw] at this
        exact this
      · left
        refine ⟨hw, hK _ _ ⟨xs, _, _, rfl, rfl, rfl, ?_⟩⟩
        rw [← h2]
        unfold firstW
        rw [List.find?_cons, decide_eq_false hw]
  · rintro ρ S2 ⟨xs, x3, x4, h1, rfl, rfl, h2⟩
    cases xs with
    | nil =>
      have := h S2 hx
      rw [← h2] at this
      simpa [firstW, optV] using this
    | cons x xs => cases h1
theorem why_in_ok {n : Nat} {fo : Fo} {td : Addr} {us : List Val} {v : Val} {e : Ent} {S : Sto} {P : VP} {X : XP} (hz : fo.size ≤ 1000) (nd : ((ents fo).map Ent.n).Nodup) (ht : S td = some (.lst us)) (he : EntsAt S us (ents fo)) (hv : EntAt S v e) (hm : e ∈ ents fo)
    (h : ∀ S', Ext S S' → P (whyV (ents fo) e) S') : callF T (n + 3) i_why_in [.ref td, v] S P X := by
  refine call_is (fn := f_why_in) rfl rfl ?_
  simp [f_why_in, b_why_in]
  refine ⟨trivial, ?_⟩
  simp
  refine first_with_ok hz nd ht he hv hm fun S1 hx => ?_
  have hv1 : EntAt S1 v e := let ⟨a, h1, h2⟩ := hv; ⟨a, h1, hx _ _ h2⟩
  cases h1 : firstW (ents fo) "hidden" (e.anc ++ [e.n]) with
  | some x =>
    simp [optV]
    have := h S1 hx
    unfold whyV at this
    rw [h1] at this
    exact this
  | none =>
    simp [optV]
    refine ⟨trivial, ?_⟩
    simp
    refine first_with_ok hz nd (hx _ _ ht) (he.ext hx) hv1 hm fun S2 hx2 => ?_
    have := h S2 (hx.trans hx2)
    unfold whyV at this
    rw [h1] at this
    cases h2 : firstW (ents fo) "shut" (e.anc ++ [e.n]) with
    | some x =>
      rw [h2] at this
      simp [optV]
      exact this
    | none =>
      rw [h2] at this
      simp [optV]
      exact ⟨trivial, this⟩
end K81

set_option Elab.async false
set_option linter.all false
set_option maxRecDepth 100000
namespace K81
open PySem PySem.Spec PyProof.Rows L2 FW
theorem entry_of_ok {n : Nat} {fo : Fo} {x : Str} {e : Ent} {S : Sto} {P : VP} {X : XP} (hd : fo.deep < n) (hz : fo.size ≤ 1000) (hx : at_ (ents fo) x = some e) (h : ∀ S' v, Ext S S' → EntAt S' v e → P v S') : callF T (n + 2) i_entry_of [.tup fo.vs, .str x] S P X := by
  refine call_is (fn := f_entry_of) rfl rfl ?_
  simp [f_entry_of, b_entry_of]
  refine entries_ok hd hz fun S1 td us hxt htd ht he ho => semSeq_ref ht ?_
  refine forL_from (fun r ρ S2 => ∃ (es : List Ent) (x2 : Option Val), EntsAt S1 r es ∧ at_ es x = some e ∧ ρ = [some (.tup fo.vs), some (.str x), x2] ∧ S2 = S1) ?_ ?_ ?_ _ ⟨_, none, he, hx, rfl, rfl⟩
  · rintro r ρ S2 ⟨es, x2, h1, h2, rfl, rfl⟩
    exact ht
  · rintro v r ρ S2 K ⟨es, x2, h1, h2, rfl, rfl⟩ hK
    obtain ⟨d, es, rfl, hv, hr⟩ := h1.cons_inv
    have hv' := hv
    obtain ⟨a, rfl, ha⟩ := hv
    simp [Ent.pv]
    unfold at_ at h2
    rw [List.find?_cons] at h2
    by_cases hn : d.n = x
    · right
      rw [decide_eq_true hn] at h2
      cases h2
      exact ⟨hn, h S2 _ hxt hv'⟩
    · left
      rw [decide_eq_false hn] at h2
      exact ⟨hn, hK _ _ ⟨es, _, hr, h2, rfl, rfl⟩⟩
  · rintro ρ S2 ⟨es, x2, h1, h2, rfl, rfl⟩
    cases h1
    cases h2
theorem why_not_ok {n : Nat} {fo : Fo} {x : Str} {e : Ent} {S : Sto} {P : VP} {X : XP} (hd : fo.deep < n) (hz : fo.size ≤ 1000) (nd : ((ents fo).map Ent.n).Nodup) (hx : at_ (ents fo) x = some e) (h : ∀ S', Ext S S' → P (whyV (ents fo) e) S') :
    callF T (n + 4) i_why_not [.tup fo.vs, .str x] S P X := by
  have hm : e ∈ ents fo := List.mem_of_find?_eq_some hx
  refine call_is (fn := f_why_not) rfl rfl ?_
  simp [f_why_not, b_why_not]
  refine entry_of_ok (n := n + 1) (by omega) hz hx fun S1 v hx1 hv => ?_
  refine entries_ok (n := n + 2) (by omega) hz fun S2 td us hx2 htd ht he ho => ?_
  exact why_in_ok hz nd ht he (let ⟨a, k1, k2⟩ := hv; ⟨a, k1, hx2 _ _ k2⟩) hm fun S3 hx3 => h S3 ((hx1.trans hx2).trans hx3)
theorem ask_open_ok {n : Nat} {fo : Fo} {x : Str} {e : Ent} {S : Sto} {P : VP} {X : XP} (hd : fo.deep < n) (hz : fo.size ≤ 1000) (nd : ((ents fo).map Ent.n).Nodup) (hx : at_ (ents fo) x = some e) (hw : whyV (ents fo) e = .non) (h : ∀ S', Ext S S' → P .non S') :
    callF T (n + 5) i_ask_open [.tup fo.vs, .str x] S P X := by
  refine call_is (fn := f_ask_open) rfl rfl ?_
  simp [f_ask_open, b_ask_open]
  refine why_not_ok hd hz nd hx fun S1 hx1 => ?_
  rw [hw]
  simp
  exact h S1 hx1
end K81

set_option Elab.async false
set_option linter.all false
set_option maxRecDepth 100000
namespace K81
open PySem PySem.Spec PyProof.Rows L2 FW
section
variable {n : Nat} {p q : Bx} {S : Sto} {P : VP} {X : XP} {a b c d g : Int}
theorem across_ok (h : P (.tup [.int q.x, .int (q.x + q.w)]) S) : callF T (n + 1) i_across_of [q.v] S P X := by
  refine call_is (fn := f_across_of) rfl rfl ?_
  simp [f_across_of, b_across_of, Bx.v]
  exact h
theorem down_ok (h : P (.tup [.int q.y, .int (q.y + q.h)]) S) : callF T (n + 1) i_down_of [q.v] S P X := by
  refine call_is (fn := f_down_of) rfl rfl ?_
  simp [f_down_of, b_down_of, Bx.v]
  exact h
theorem common_ok (h : P (.bl (hcB a b c d)) S) : callF T (n + 1) i_have_common [.tup [.int a, .int b], .tup [.int c, .int d]] S P X := by
  refine call_is (fn := f_have_common) rfl rfl ?_
  simp [f_have_common, b_have_common]
  unfold hcB at h
  by_cases h1 : a < d
  · right
    rw [decide_eq_true h1] at h
    refine ⟨h1, ?_⟩
    by_cases h2 : c < b
    · right
      rw [decide_eq_true h2] at h
      exact ⟨h2, h⟩
    · left
      rw [decide_eq_false h2] at h
      exact ⟨by omega, h⟩
  · left
    rw [decide_eq_false h1] at h
    exact ⟨by omega, h⟩
theorem far_ok (h : P (.int (farI a b c d)) S) : callF T (n + 2) i_far_apart [.tup [.int a, .int b], .tup [.int c, .int d]] S P X := by
  refine call_is (fn := f_far_apart) rfl rfl ?_
  simp [f_far_apart, b_far_apart]
  refine common_ok ?_
  unfold farI at h
  cases hh : hcB a b c d with
  | true =>
    rw [hh] at h
    simpa using h
  | false =>
    rw [hh] at h
    simpa using h
theorem near_ok (h : P (valO (nearO g a b c d)) S) : callF T (n + 3) i_near_by [.int g, .tup [.int a, .int b], .tup [.int c, .int d]] S P X := by
  refine call_is (fn := f_near_by) rfl rfl ?_
  simp [f_near_by, b_near_by]
  unfold nearO at h
  by_cases hg : g < 0
  · right
    rw [if_pos hg] at h
    exact ⟨hg, h⟩
  · left
    rw [if_neg hg] at h
    refine ⟨by omega, common_ok ?_⟩
    simp [valO] at h ⊢
    cases hh : hcB a b c d with
    | true =>
      rw [hh] at h
      simp
      exact far_ok (by simpa using h)
    | false =>
      rw [hh] at h
      simp
      exact far_ok (by simpa using h)
theorem nears_ok (h : ∀ S' p', Ext S S' → S p' = none → S' p' = some (.lst ((nearsL p q).map valO)) → P (.ref p') S') : callF T (n + 4) i_nears [p.v, q.v] S P X := by
  refine call_is (fn := f_nears) rfl rfl ?_
  simp [f_nears, b_nears]
  refine across_ok ?_
  simp
  refine down_ok ?_
  simp
  refine across_ok ?_
  simp
  refine down_ok ?_
  simp
  refine near_ok ?_
  refine near_ok ?_
  refine allo_ok fun q1 S1 hq1 x1 e1 => ?_
  refine near_ok ?_
  refine near_ok ?_
  refine allo_ok fun q2 S2 hq2 x2 e2 => ⟨_, _, x2 _ _ e1, e2, by simp, allo_ok fun q3 S3 hq3 x3 e3 => h S3 q3 ((x1.trans x2).trans x3) ((x1.trans x2).none hq3) e3⟩
end
def unpV : List BF → List Val := fun bf => bf.map fun p => valO p.1
def fndV : List BF → List Val := fun bf => bf.map fun p => optV p.2
theorem four_ok {n : Nat} {q : Bx} {sm : Addr} {ps : List Ent} {S : Sto} {P : VP} {X : XP} (hs : S sm = some (.lst (ps.map Ent.pv))) (hb : ∀ e ∈ ps, BoxOk e.b)
    (h : ∀ S' p', Ext S S' → S p' = none → S' p' = some (.lst (fourV q ps)) → P (.ref p') S') : callF T (n + 5) i_nearest_four [.ref sm, q.v] S P X := by
  refine call_is (fn := f_nearest_four) rfl rfl ?_
  simp [f_nearest_four, b_nearest_four]
  refine allo_ok fun B S1 hB x1 e1 => allo_ok fun F S2 hF x2 e2 => ?_
  have hFB : F ≠ B := fun z => by rw [z, e1] at hF; cases hF
  have hB2 := x2 _ _ e1
  have sB : sm ≠ B := fun z => by rw [z, hB] at hs; cases hs
  have sF : sm ≠ F := fun z => by rw [z] at hs; rw [x1 _ _ hs] at hF; cases hF
  refine semSeq_ref (x2 _ _ (x1 _ _ hs)) ?_
  refine forL_from (fun r ρ S3 => ∃ (d ps' : List Ent) (x4 x5 x6 : Option Val), r = ps'.map Ent.pv ∧ d ++ ps' = ps ∧ ρ = [some (.ref sm), some q.v, some (.ref B), some (.ref F), x4, x5, x6] ∧ (∀ a o, a ≠ B → a ≠ F → S2 a = some o → S3 a = some o) ∧
    S3 B = some (.lst (unpV (fourL q d bf0))) ∧ S3 F = some (.lst (fndV (fourL q d bf0)))) ?_ ?_ ?_ _ ⟨[], ps, none, none, none, rfl, rfl, rfl, fun _ _ _ _ z => z, hB2, e2⟩
  · rintro r ρ S3 ⟨d, ps', x4, x5, x6, g0, g1, rfl, g2, g3, g4⟩
    exact g2 _ _ sB sF (x2 _ _ (x1 _ _ hs))
  · rintro v r ρ S3 K ⟨d, ps', x4, x5, x6, g0, g1, rfl, g2, g3, g4⟩ hK
    cases ps' with
    | nil => cases g0
    | cons e ps' =>
      simp only [List.map_cons, List.cons.injEq] at g0
      obtain ⟨rfl, rfl⟩ := g0
      have hbe : e.b = (bxOf e.b).v := hb e (by rw [← g1]; simp)
      have hpv : e.pv = .tup [.str e.n, (bxOf e.b).v, .str e.w, .int e.r, e.h, .tup e.cs.vs] := by unfold Ent.pv; rw [← hbe]
      rw [hpv]
      simp
      refine nears_ok fun S4 L x4 hL e4 => ?_
      have hLB : L ≠ B := fun z => by rw [z, g3] at hL; cases hL
      have hLF : L ≠ F := fun z => by rw [z, g4] at hL; cases hL
      refine ⟨_, by simp [wkOf, e4]; rfl, ?_⟩
      have hlen := fourL_len q d bf0 rfl
      refine forL_from (fun r ρ S5 => ∃ (bf1 bf2 : List BF) (ns : List (Option (List Int))) (x5 x6 : Option Val), r = enumL (ns.map valO) bf1.length ∧ ns.length = bf2.length ∧ bf1 ++ updL e.n ns bf2 = updL e.n (nearsL q (bxOf e.b)) (fourL q d bf0) ∧
        ρ = [some (.ref sm), some q.v, some (.ref B), some (.ref F), some e.pv, x5, x6] ∧ (∀ a o, a ≠ B → a ≠ F → S4 a = some o → S5 a = some o) ∧ S5 B = some (.lst (unpV (bf1 ++ bf2))) ∧ S5 F = some (.lst (fndV (bf1 ++ bf2)))) ?_ ?_ ?_ _
        ⟨[], fourL q d bf0, nearsL q (bxOf e.b), _, _, rfl, by rw [hlen]; rfl, rfl, by rw [hpv], fun _ _ _ _ z => z, x4 _ _ g3, x4 _ _ g4⟩
      · rintro r ρ S5 ⟨bf1, bf2, ns, x5, x6, k0, k1, k2, rfl, k3, k4, k5⟩
        exact k3 _ _ hLB hLF e4
      · rintro v r ρ S5 K5 ⟨bf1, bf2, ns, x5, x6, k0, k1, k2, rfl, k3, k4, k5⟩ hK5
        cases ns with
        | nil => simp [enumL] at k0
        | cons near ns =>
          cases bf2 with
          | nil => cases k1
          | cons p bf2 =>
            simp only [List.map_cons, enumL, List.cons.injEq] at k0
            obtain ⟨rfl, rfl⟩ := k0
            have u1 : updL e.n (near :: ns) (p :: bf2) = (if better near p.1 then (near, some e.n) else p) :: updL e.n ns bf2 := rfl
            rw [u1] at k2
            have hu : ∀ l : List BF, (unpV (bf1 ++ p :: l))[bf1.length]? = some (valO p.1) := fun l => by simp [unpV]
            have no : better near p.1 = false → K5 [some (.ref sm), some q.v, some (.ref B), some (.ref F), some e.pv, some (.int (bf1.length : Nat)), some (valO near)] S5 := fun hbt => by
              refine hK5 _ _ ⟨bf1 ++ [p], bf2, ns, _, _, by simp, by simpa using k1, ?_, rfl, k3, by simpa using k4, by simpa using k5⟩
              rw [← k2, hbt]; simp
            have yes : better near p.1 = true → semSet (.ref B) (.int (bf1.length : Nat)) (valO near) S5 fun S6 => semSet (.ref F) (.int (bf1.length : Nat)) (.str e.n) S6 fun S7 => K5 [some (.ref sm), some q.v, some (.ref B), some (.ref F), some e.pv, some (.int (bf1.length : Nat)), some (valO near)] S7 := fun hbt => by
              refine set_lst (j := bf1.length) k4 (ixN_nat (by simp [unpV])) ?_
              refine set_lst (j := bf1.length) (by rw [put_ne hFB]; exact k5) (ixN_nat (by simp [fndV])) ?_
              refine hK5 _ _ ⟨bf1 ++ [(near, some e.n)], bf2, ns, _, _, by simp, by simpa using k1, ?_, rfl, fun a o ha hf z => by rw [put_ne hf, put_ne ha]; exact k3 a o ha hf z, ?_, ?_⟩
              · rw [← k2, hbt]; simp
              · rw [put_ne (Ne.symm hFB), put_same]; simp [unpV]
              · rw [put_same]; simp [fndV, optV]
            rw [hpv] at no yes ⊢
            cases near with
            | none =>
              simp [valO]
              exact no rfl
            | some l =>
              simp [valO]
              have hi : atI (unpV (bf1 ++ p :: bf2)) (bf1.length : Int) = some (valO p.1) := by rw [atI_natE]; exact hu bf2
              refine ix_lst k4 hi ?_
              cases hp : p.1 with
              | none =>
                right
                rw [hp] at yes
                exact ⟨rfl, yes rfl⟩
              | some m =>
                left
                rw [hp] at yes no hi
                refine ⟨by simp [valO], ix_lst k4 hi (lt_tup ?_)⟩
                cases hl : HT.lexLt l m with
                | true => exact .inr ⟨rfl, yes hl⟩
                | false => exact .inl ⟨rfl, no hl⟩
      · rintro ρ S5 ⟨bf1, bf2, ns, x5, x6, k0, k1, k2, rfl, k3, k4, k5⟩
        have hns : ns = [] := by
          cases ns with
          | nil => rfl
          | cons a b => simp [enumL] at k0
        subst hns
        have hbf : bf2 = [] := List.length_eq_zero_iff.mp k1.symm
        subst hbf
        have k2' : bf1 = updL e.n (nearsL q (bxOf e.b)) (fourL q d bf0) := by simpa [updL] using k2
        have step : fourL q (d ++ [e]) bf0 = bf1 := by rw [k2']; unfold fourL; rw [List.foldl_append]; rfl
        refine hK _ _ ⟨d ++ [e], ps', _, _, _, rfl, by rw [← g1]; simp, rfl, fun a o ha hf z => k3 a o ha hf (x4 _ _ (g2 a o ha hf z)), ?_, ?_⟩
        · rw [step]; simpa using k4
        · rw [step]; simpa using k5
  · rintro ρ S3 ⟨d, ps', x4, x5, x6, g0, g1, rfl, g2, g3, g4⟩
    have : ps' = [] := by simpa using g0.symm
    subst this
    rw [List.append_nil] at g1
    subst g1
    simp
    refine h S3 F (fun a o z => ?_) (x1.none hF) g4
    refine g2 a o (fun y => by rw [y, hB] at z; cases z) (fun y => by rw [y] at z; rw [x1 _ _ z] at hF; cases hF) (x2 _ _ (x1 _ _ z))
end K81

set_option Elab.async false
set_option linter.all false
set_option maxRecDepth 100000
namespace K81
open PySem PySem.Spec PyProof.Rows L2 FW
theorem filt_map {α : Type} (f : Ent → Val) (g : Val → Option Val) (c : Ent → Bool) (es : List Ent) (h : ∀ e ∈ es, g (f e) = if c e then some (f e) else none) : (es.map f).filterMap g = (es.filter c).map f := by
  induction es with
  | nil => rfl
  | cons e es ih =>
    have he := h e List.mem_cons_self
    have ih := ih fun d hd => h d (List.mem_cons_of_mem _ hd)
    rw [List.map_cons, List.filter_cons]
    cases hc : c e with
    | true => rw [hc] at he; rw [List.filterMap_cons_some (b := f e) (by simpa using he), ih]; rfl
    | false => rw [hc] at he; rw [List.filterMap_cons_none (by simpa using he), ih]; rfl
theorem opene_ok {n : Nat} {fo : Fo} {S : Sto} {P : VP} {X : XP} (hd : fo.deep < n) (hz : fo.size ≤ 1000) (h : ∀ S' p, Ext S S' → S p = none → S' p = some (.lst ((openE fo).map pairV)) → P (.ref p) S') :
    callF T (n + 4) i_open_entries [.tup fo.vs] S P X := by
  refine call_is (fn := f_open_entries) rfl rfl ?_
  simp [f_open_entries, b_open_entries, ev_lc]
  refine open_ok (n := n) hd hz fun S1 p hx1 hp1 e1 => ?_
  refine entries_ok (n := n + 2) (by omega) hz fun S2 td us hx2 htd ht he ho => semSeq_ref ht ?_
  have hlen : (ents fo).length = fo.size := lay_len _ _ _ _
  refine lcLoop_from (fun r acc S3 => ∃ (done es : List Ent), EntsAt S2 r es ∧ done ++ es = ents fo ∧ acc = ((done.filter fun e => decide (e.n ∈ opens fo)).map pairV) ∧ S3 = S2) ?_ ?_ ?_ _ _ ?_ ⟨[], ents fo, he, rfl, rfl, rfl⟩
  · rintro r acc S3 ⟨done, es, g1, g2, rfl, rfl⟩
    exact ht
  · rintro v r acc S3 K ⟨done, es, g1, g2, rfl, rfl⟩ hK1 hK2
    obtain ⟨e, es, rfl, ⟨a, rfl, ha⟩, hr⟩ := g1.cons_inv
    simp [lcTurn, lcTg, Ent.pv]
    refine in_flat (S := S3) (w := .ref p) (vs := (opens fo).map .str) (fun z q => nomatch q) (by simp [hx2 _ _ e1]) rfl (flats_str _) ?_
    rw [memW_str]
    cases hc : decide (e.n ∈ opens fo) with
    | true => exact .inr ⟨rfl, hK1 _ _ ⟨done ++ [e], es, hr, by rw [← g2]; simp, by simp [List.filter_append, hc, pairV, Ent.pv], rfl⟩⟩
    | false => exact .inl ⟨rfl, hK2 _ ⟨done ++ [e], es, hr, by rw [← g2]; simp, by simp [List.filter_append, hc], rfl⟩⟩
  · rintro acc S3 ⟨done, es, g1, g2, rfl, rfl⟩
    cases g1
    rw [List.append_nil] at g2
    refine allo_ok fun q S4 hq x4 e4 => h S4 q ((hx1.trans hx2).trans x4) ((hx1.trans hx2).none hq) ?_
    rw [e4, g2]; rfl
  · have := he.len
    simp; omega
theorem mates_ok {n : Nat} {a : Addr} {es : List Ent} {pl : List Val} {S : Sto} {P : VP} {X : XP} (hl : es.length ≤ 1000) (ha : S a = some (.lst (es.map pairV))) (hp : ∀ e ∈ es, PlOk e.pl) (hpl : PlOk pl)
    (h : ∀ S' p, Ext S S' → S p = none → S' p = some (.lst ((matesF es pl).map Ent.pv)) → P (.ref p) S') : callF T (n + 1) i_mates_in [.ref a, .tup pl] S P X := by
  refine call_is (fn := f_mates_in) rfl rfl ?_
  simp [f_mates_in, b_mates_in, ev_lc]
  refine semSeq_ref ha ?_
  refine lcLoop_from (fun r acc S1 => ∃ (done es' : List Ent), r = es'.map pairV ∧ done ++ es' = es ∧ acc = (done.filter fun e => samePl e.pl (cut pl none (some (-1)))).map Ent.pv ∧ S1 = S) ?_ ?_ ?_ _ _ ?_ ⟨[], es, rfl, rfl, rfl, rfl⟩
  · rintro r acc S1 ⟨done, es', g1, g2, rfl, rfl⟩
    exact ha
  · rintro v r acc S1 K ⟨done, es', g1, g2, rfl, rfl⟩ hK1 hK2
    cases es' with
    | nil => cases g1
    | cons e es' =>
      simp only [List.map_cons, List.cons.injEq] at g1
      obtain ⟨rfl, rfl⟩ := g1
      have he := hp e (by rw [← g2]; simp)
      simp [lcTurn, lcTg, pairV]
      refine eq_pl (he.cut _ _) (hpl.cut _ _) ?_
      cases hc : samePl e.pl (cut pl none (some (-1))) with
      | true =>
        right
        unfold samePl at hc
        exact ⟨hc, hK1 _ _ ⟨done ++ [e], es', rfl, by rw [← g2]; simp, by simp [List.filter_append, samePl, hc], rfl⟩⟩
      | false =>
        left
        unfold samePl at hc
        exact ⟨hc, hK2 _ ⟨done ++ [e], es', rfl, by rw [← g2]; simp, by simp [List.filter_append, samePl, hc], rfl⟩⟩
  · rintro acc S1 ⟨done, es', g1, g2, rfl, rfl⟩
    have : es' = [] := by simpa using g1.symm
    subst this
    rw [List.append_nil] at g2
    subst g2
    exact allo_ok fun q S4 hq x4 e4 => h S4 q x4 hq e4
  · simp; omega
theorem inner_ok {n : Nat} {a : Addr} {es : List Ent} {pl : List Val} {S : Sto} {P : VP} {X : XP} (ha : S a = some (.lst (es.map pairV))) (hp : ∀ e ∈ es, PlOk e.pl) (hpl : PlOk pl)
    (h : P (optV (innerF es pl)) S) : callF T (n + 1) i_first_inner [.ref a, .tup pl] S P X := by
  refine call_is (fn := f_first_inner) rfl rfl ?_
  simp [f_first_inner, b_first_inner]
  refine semSeq_ref ha ?_
  refine forL_from (fun r ρ S1 => ∃ (es' : List Ent) (x2 x3 : Option Val), r = es'.map pairV ∧ (∀ e ∈ es', PlOk e.pl) ∧ innerF es' pl = innerF es pl ∧ ρ = [some (.ref a), some (.tup pl), x2, x3] ∧ S1 = S) ?_ ?_ ?_ _ ⟨es, none, none, rfl, hp, rfl, rfl, rfl⟩
  · rintro r ρ S1 ⟨es', x2, x3, g1, g2, g3, rfl, rfl⟩
    exact ha
  · rintro v r ρ S1 K ⟨es', x2, x3, g1, g2, g3, rfl, rfl⟩ hK
    cases es' with
    | nil => cases g1
    | cons e es' =>
      simp only [List.map_cons, List.cons.injEq] at g1
      obtain ⟨rfl, rfl⟩ := g1
      simp [pairV]
      refine eq_pl ((g2 e List.mem_cons_self).cut _ _) hpl ?_
      cases hc : samePl e.pl pl with
      | true =>
        have e1 : innerF (e :: es') pl = some e.n := by unfold innerF; rw [List.find?_cons, hc]; rfl
        rw [← g3, e1] at h
        unfold samePl at hc
        exact .inr ⟨hc, by simpa [Ent.pv, optV] using h⟩
      | false =>
        have e1 : innerF (e :: es') pl = innerF es' pl := by unfold innerF; rw [List.find?_cons, hc]
        rw [e1] at g3
        unfold samePl at hc
        exact .inl ⟨hc, hK _ _ ⟨es', _, _, rfl, fun d hd => g2 d (List.mem_cons_of_mem _ hd), g3, rfl, rfl⟩⟩
  · rintro ρ S1 ⟨es', x2, x3, g1, g2, g3, rfl, rfl⟩
    have : es' = [] := by simpa using g1.symm
    subst this
    rw [← g3] at h
    exact h
end K81

set_option Elab.async false
set_option linter.all false
set_option maxRecDepth 100000
namespace K81
open PySem PySem.Spec PyProof.Rows L2 FW
/-- where a name stands first in a row of names -/
theorem idx_at {ws : List Str} {x : Str} (h : x ∈ ws) : ws[ws.idxOf x]? = some x ∧ ws.idxOf x < ws.length := by
  have h1 := List.idxOf_lt_length_of_mem h
  exact ⟨by rw [List.getElem?_eq_getElem h1, List.getElem_idxOf], h1⟩
theorem idx_min {ws : List Str} {x : Str} {i : Nat} (h : i < ws.idxOf x) : ws[i]? ≠ some x := by
  intro e
  have h0 := (List.getElem?_eq_some_iff.mp e)
  obtain ⟨h1, h2⟩ := h0
  have := List.not_of_lt_findIdx (p := fun y => y == x) (xs := ws) h
  simp at this
  exact this h2
theorem mt_index {a : Addr} {ws : List Str} {x : Str} {S : Sto} {P : VP} (ha : S a = some (.lst (ws.map .str))) (hx : x ∈ ws) (q : P (.int (ws.idxOf x : Nat)) S) : ∃ T, mtTy .index (.ref a) S = some T ∧ semMt .index T (.ref a) [.str x] S P := by
  obtain ⟨h1, h2⟩ := idx_at hx
  refine mt_idx ha ⟨ws.map .str, ws.idxOf x, .str x, by simp [ha], rfl, flats_str _, by rw [List.getElem?_map, h1]; rfl, by simp [eqW], ?_, q⟩
  intro i y hi hy
  rw [List.getElem?_map] at hy
  cases q : ws[i]? with
  | none => rw [q] at hy; cases hy
  | some z =>
    rw [q] at hy
    cases hy
    have : z ≠ x := fun e => idx_min hi (e ▸ q)
    simpa [eqW] using this
theorem modI {a : Nat} {n : Nat} {i : Int} (hn : 0 < n) (h : i % (n : Int) = ((a % n : Nat) : Int)) {ws : List Str} (hl : ws.length = n) : ∃ y, atI (ws.map Val.str) (i % (n : Int)) = some (.str y) ∧ ws[a % n]? = some y := by
  have hlt := Nat.mod_lt a hn
  refine ⟨ws[a % n]'(by omega), ?_, List.getElem?_eq_getElem (by omega)⟩
  rw [h, atI_natE, List.getElem?_map, List.getElem?_eq_getElem (by omega)]; rfl
section
variable {n : Nat} {fo : Fo} {x : Str} {e : Ent} {S : Sto} {P : VP} {X : XP} (hd : fo.deep < n) (hz : fo.size ≤ 1000) (nd : ((ents fo).map Ent.n).Nodup) (hx : at_ (ents fo) x = some e) (hw : whyV (ents fo) e = .non) (hin : x ∈ walkF fo)
include hd hz nd hx hw hin
theorem next_to_ok {step : Int} {a : Nat} (hs : ((((walkF fo).idxOf x : Nat) : Int) + step) % ((walkF fo).length : Int) = ((a % (walkF fo).length : Nat) : Int)) (h : ∀ S', Ext S S' → P (optV (walkF fo)[a % (walkF fo).length]?) S') :
    callF T (n + 6) i_next_to [.tup fo.vs, .str x, .int step] S P X := by
  refine call_is (fn := f_next_to) rfl rfl ?_
  simp [f_next_to, b_next_to]
  refine ask_open_ok hd hz nd hx hw fun S1 hx1 => ?_
  refine walk_ok (n := n + 1) (by omega) hz nd fun S2 p hx2 hp e2 => ?_
  refine mt_index e2 hin ?_
  have hpos : 0 < (walkF fo).length := List.length_pos_of_mem hin
  rw [FW.op_add]
  refine len_lst e2 ?_
  simp
  obtain ⟨y, h1, h2⟩ := modI (ws := walkF fo) hpos hs rfl
  refine ⟨by omega, ix_lst e2 h1 ?_⟩
  have := h S2 (hx1.trans hx2)
  rw [h2] at this
  exact this
theorem on_ok (h : ∀ S', Ext S S' → P (onV (walkF fo) ((walkF fo).idxOf x)) S') : callF T (n + 7) i_on_from [.tup fo.vs, .str x] S P X := by
  refine call_is (fn := f_on_from) rfl rfl ?_
  simp [f_on_from, b_on_from]
  exact next_to_ok hd hz nd hx hw hin (a := (walkF fo).idxOf x + 1) (by rw [Int.natCast_emod, Int.natCast_add]; rfl) h
theorem back_ok (h : ∀ S', Ext S S' → P (backV (walkF fo) ((walkF fo).idxOf x)) S') : callF T (n + 7) i_back_from [.tup fo.vs, .str x] S P X := by
  refine call_is (fn := f_back_from) rfl rfl ?_
  simp [f_back_from, b_back_from]
  have hpos : 0 < (walkF fo).length := List.length_pos_of_mem hin
  refine next_to_ok hd hz nd hx hw hin (a := (walkF fo).idxOf x + ((walkF fo).length - 1)) ?_ h
  have e1 : (((walkF fo).idxOf x + ((walkF fo).length - 1) : Nat) : Int) = (((walkF fo).idxOf x : Nat) : Int) + -1 + ((walkF fo).length : Int) := by omega
  rw [Int.natCast_emod, e1, Int.add_emod_right]
omit hin in
theorem out_ok (h : ∀ S', Ext S S' → P (lastAnc e) S') : callF T (n + 6) i_out_of [.tup fo.vs, .str x] S P X := by
  refine call_is (fn := f_out_of) rfl rfl ?_
  simp [f_out_of, b_out_of]
  refine ask_open_ok hd hz nd hx hw fun S1 hx1 => allo_ok fun q S2 hq x2 e2 => ?_
  refine entry_of_ok (n := n + 3) (by omega) hz hx fun S3 v hx3 hv => ?_
  obtain ⟨a, rfl, ha⟩ := hv
  simp
  have hl := ents_anc (List.mem_of_find?_eq_some hx)
  refine ⟨_, hx3 _ _ e2, _, ha, by simp; omega, allo_ok fun q2 S4 hq2 x4 e4 => ix_lst (x := lastAnc e) e4 ?_ (h S4 (((hx1.trans x2).trans hx3).trans x4))⟩
  rw [atI_m1]
  unfold lastAnc
  cases he : e.anc with
  | nil => rfl
  | cons z zs =>
    rw [List.map_cons, List.getLast?_append]
    have : (z :: zs).getLast? = some ((z :: zs).getLast (by simp)) := List.getLast?_eq_some_getLast (by simp)
    rw [← List.map_cons, List.getLast?_map, this]; rfl
omit hin in
theorem into_ok (h : ∀ S', Ext S S' → P (optV (innerF (openE fo) e.pl)) S') : callF T (n + 6) i_into [.tup fo.vs, .str x] S P X := by
  refine call_is (fn := f_into) rfl rfl ?_
  simp [f_into, b_into]
  refine ask_open_ok hd hz nd hx hw fun S1 hx1 => ?_
  refine opene_ok (n := n + 1) (by omega) hz fun S2 p hx2 hp e2 => ?_
  refine entry_of_ok (n := n + 3) (by omega) hz hx fun S3 v hx3 hv => ?_
  obtain ⟨a, rfl, ha⟩ := hv
  simp
  refine inner_ok (hx3 _ _ e2) (fun d hd => ents_pl (List.mem_filter.mp hd).1) (ents_pl (List.mem_of_find?_eq_some hx)) (h S3 ((hx1.trans hx2).trans hx3))
end
end K81

set_option Elab.async false
set_option linter.all false
set_option maxRecDepth 100000
namespace K81
open PySem PySem.Spec PyProof.Rows L2 FW
def sides : List Str := ["up", "down", "left", "right"]
def keys8 : List Str := ["on", "back", "up", "down", "left", "right", "into", "out"]
theorem four_list {l : List Val} (h : l.length = 4) : ∃ a b c d, l = [a, b, c, d] := by
  match l, h with
  | [a, b, c, d], _ => exact ⟨a, b, c, d, rfl⟩
section
variable {n : Nat} {fo : Fo} {x : Str} {e : Ent} {S : Sto} {P : VP} {X : XP} (hd : fo.deep < n) (hz : fo.size ≤ 1000) (nd : ((ents fo).map Ent.n).Nodup) (hb : ∀ d ∈ ents fo, BoxOk d.b) (hx : at_ (ents fo) x = some e) (hw : whyV (ents fo) e = .non)
include hd hz nd hb hx hw
theorem openE_len : (openE fo).length ≤ 1000 := by
  have hlen : (ents fo).length = fo.size := lay_len _ _ _ _
  have := List.length_filter_le (fun e => decide (e.n ∈ opens fo)) (ents fo)
  unfold openE; omega
theorem nearest_ok {way : Str} {i : Nat} {v : Val} (h1 : sides[i]? = some way) (hv : (fourV (bxOf e.b) (matesF (openE fo) e.pl))[i]? = some v) (h : ∀ S', Ext S S' → P v S') : callF T (n + 6) i_nearest [.tup fo.vs, .str x, .str way] S P X := by
  have hm : e ∈ ents fo := List.mem_of_find?_eq_some hx
  have hi : i < 4 := (List.getElem?_eq_some_iff.mp h1).1
  have opp : ∀ Q : VP, (∀ v, Q v S) → callF T (n + 5) i_opposite [.str way] S Q X := by
    intro Q hq
    refine call_is (fn := f_opposite) rfl rfl ?_
    match i, hi, h1 with
    | 0, _, h1 => cases h1; simp [f_opposite, b_opposite]; first | exact hq _ | exact ⟨_, rfl, hq _⟩ | exact ⟨rfl, _, rfl, hq _⟩
    | 1, _, h1 => cases h1; simp [f_opposite, b_opposite]; first | exact hq _ | exact ⟨_, rfl, hq _⟩ | exact ⟨rfl, _, rfl, hq _⟩
    | 2, _, h1 => cases h1; simp [f_opposite, b_opposite]; first | exact hq _ | exact ⟨_, rfl, hq _⟩ | exact ⟨rfl, _, rfl, hq _⟩
    | 3, _, h1 => cases h1; simp [f_opposite, b_opposite]; first | exact hq _ | exact ⟨_, rfl, hq _⟩ | exact ⟨rfl, _, rfl, hq _⟩
  refine call_is (fn := f_nearest) rfl rfl ?_
  simp [f_nearest, b_nearest]
  refine opp _ fun _ => ask_open_ok hd hz nd hx hw fun S1 hx1 => ?_
  refine entry_of_ok (n := n + 3) (by omega) hz hx fun S2 w hx2 hw2 => ?_
  obtain ⟨a, rfl, ha⟩ := hw2
  simp
  refine opene_ok (n := n + 1) (by omega) hz fun S3 p hx3 hp e3 => ?_
  refine mates_ok (openE_len hd hz nd hb hx hw) e3 (fun d hd => ents_pl (List.mem_filter.mp hd).1) (ents_pl hm) fun S4 q hx4 hq e4 => ?_
  simp [Ent.pv]
  rw [show e.b = (bxOf e.b).v from hb e hm]
  refine four_ok e4 (fun d hd => hb d (List.mem_filter.mp (List.mem_filter.mp hd).1).1) fun S5 r hx5 hr e5 => mt_idxK ?_
  refine do_idxK (ys := sides) (j := i) h1 ?_ (ix_lst e5 (by rw [atI_natE]; exact hv) (h S5 ((((hx1.trans hx2).trans hx3).trans hx4).trans hx5)))
  intro m hm z
  have nds : sides.Nodup := by decide +kernel
  have hl : sides.length = 4 := rfl
  have := (List.getElem?_inj (by omega) nds).mp (z.trans h1.symm)
  omega
theorem goes_ok {i : Nat} {key : Str} {v : Val} (hin : x ∈ walkF fo) (hn : e.n = x) (h1 : keys8[i]? = some key) (hv : (tabV fo e)[i]? = some v) (h : ∀ S', Ext S S' → P v S') : callF T (n + 8) i_goes [.tup fo.vs, .str x, .str key] S P X := by
  refine call_is (fn := f_goes) rfl rfl ?_
  obtain ⟨a, b, c, d, h4⟩ := four_list (fourV_len (bxOf e.b) (matesF (openE fo) e.pl))
  unfold tabV at hv
  rw [h4, hn] at hv
  have hi : i < 8 := (List.getElem?_eq_some_iff.mp h1).1
  have mem : ∀ (key : Str) (Q : Bool → Prop), memW (.str key) (keys8.map .str) = true → Q true → semIn (.str key) (.kt (keys8.map .str)) S Q := fun key Q hk q => in_flat (w := .kt (keys8.map .str)) (fun z q => nomatch q) rfl rfl rfl (by rw [hk]; exact q)
  simp [f_goes, b_goes]
  have hk : memW (.str key) (keys8.map .str) = true := by
    rw [memW_str]
    exact decide_eq_true (List.mem_of_getElem? h1)
  refine mem key _ hk ?_
  simp
  match i, hi, h1, hv with
  | 0, _, h1, hv => cases h1; cases hv; simp; exact on_ok (n := n) hd hz nd hx hw hin h
  | 1, _, h1, hv => cases h1; cases hv; exact .inl ⟨by decide +kernel, .inr ⟨rfl, back_ok (n := n) hd hz nd hx hw hin h⟩⟩
  | 2, _, h1, hv => cases h1; cases hv; exact .inl ⟨by decide +kernel, .inl ⟨by decide +kernel, .inl ⟨by decide +kernel, .inl ⟨by decide +kernel, nearest_ok (n := n + 1) (by omega) hz nd hb hx hw (i := 0) rfl (by rw [h4]; rfl) h⟩⟩⟩⟩
  | 3, _, h1, hv => cases h1; cases hv; exact .inl ⟨by decide +kernel, .inl ⟨by decide +kernel, .inl ⟨by decide +kernel, .inl ⟨by decide +kernel, nearest_ok (n := n + 1) (by omega) hz nd hb hx hw (i := 1) rfl (by rw [h4]; rfl) h⟩⟩⟩⟩
  | 4, _, h1, hv => cases h1; cases hv; exact .inl ⟨by decide +kernel, .inl ⟨by decide +kernel, .inl ⟨by decide +kernel, .inl ⟨by decide +kernel, nearest_ok (n := n + 1) (by omega) hz nd hb hx hw (i := 2) rfl (by rw [h4]; rfl) h⟩⟩⟩⟩
  | 5, _, h1, hv => cases h1; cases hv; exact .inl ⟨by decide +kernel, .inl ⟨by decide +kernel, .inl ⟨by decide +kernel, .inl ⟨by decide +kernel, nearest_ok (n := n + 1) (by omega) hz nd hb hx hw (i := 3) rfl (by rw [h4]; rfl) h⟩⟩⟩⟩
  | 6, _, h1, hv => cases h1; cases hv; exact .inl ⟨by decide +kernel, .inl ⟨by decide +kernel, .inr ⟨rfl, into_ok (n := n + 1) (by omega) hz nd hx hw h⟩⟩⟩
  | 7, _, h1, hv => cases h1; cases hv; exact .inl ⟨by decide +kernel, .inl ⟨by decide +kernel, .inl ⟨by decide +kernel, .inr ⟨rfl, out_ok (n := n + 1) (by omega) hz nd hx hw h⟩⟩⟩⟩
end
end K81

set_option Elab.async false
set_option linter.all false
set_option maxRecDepth 100000
/-! the law's rows, as a function of the script -/
namespace K81
open PySem PySem.Spec PyProof.Rows L2 FW
def six8 : List Str := ["free", "free", "free", "free", "free", "free", "shut", "hidden"]
def rk4 : List Int := [0, 0, 1, 2]
def nm8 (t i : Nat) : Str := strRep (chr1 (97 + (t + i) % 26)) ((1 + t % 8 : Nat) : Int)
theorem nm8_cps (t i : Nat) : (nm8 t i).cps.toList = List.replicate (1 + t % 8) (97 + (t + i) % 26) := by
  unfold nm8 strRep chr1
  rw [Int.toNat_natCast]
  simp
theorem nm8_ok {t i : Nat} : NameOk (nm8 t i) := by
  unfold NameOk
  rw [nm8_cps, List.length_replicate]
  refine ⟨by omega, by omega, fun c hc => ?_⟩
  rw [List.eq_of_mem_replicate hc]
  omega
theorem nm8_inj {t a b : Nat} (ha : a < 26) (hb : b < 26) (h : nm8 t a = nm8 t b) : a = b := by
  have e := congrArg (fun x : Str => x.cps.toList) h
  simp only [nm8_cps] at e
  have m : 97 + (t + a) % 26 = 97 + (t + b) % 26 := by
    have : (97 + (t + a) % 26) ∈ List.replicate (1 + t % 8) (97 + (t + b) % 26) := by
      rw [← e]; exact List.mem_replicate.mpr ⟨by omega, rfl⟩
    exact List.eq_of_mem_replicate this
  omega
def m5 (dp : Nat) : Int := if ((dp : Nat) : Int) - 1 + 2 < 5 then ((dp : Nat) : Int) - 1 + 2 else 5
def rowD (ns : List Int) (t i dp : Nat) : Rw :=
  let f0 := fd0 ns (1 + (i : Int))
  let f1 := f0.n (m5 dp)
  let f2 := f1.n 12
  let f3 := f2.n 12
  let f4 := f3.n 3
  let f5 := f4.n 3
  let f6 := f5.n 8
  ⟨(f0.v (m5 dp)).toNat, ⟨nm8 t i, six8.getD (f5.v 8).toNat "", rk4.getD (f6.v 4).toNat 0⟩, ⟨f1.v 12, f2.v 12, 1 + f3.v 3, 1 + f4.v 3⟩⟩
def rowsD (ns : List Int) (t : Nat) : Nat → List Rw
  | 0 => []
  | i + 1 => rowsD ns t i ++ [rowD ns t i (lastD 0 (rowsD ns t i))]
def manyOf (ns : List Int) : Nat := ((fd0 ns 0).v 15).toNat
def turnOf (ns : List Int) : Nat := (((fd0 ns 0).n 15).v 26).toNat
def rowsOf (ns : List Int) : List Rw := rowsD ns (turnOf ns) (manyOf ns)
structure ROk (rs : List Rw) : Prop where
  wf : WfR 0 rs
  nd : (rs.map fun r => r.t.n).Nodup
  rk : ∀ r ∈ rs, r.t.r ∈ rk4
  len : rs.length ≤ 14
  ds : ∀ r ∈ rs, r.d ≤ 4
  nm : ∀ r ∈ rs, NameOk r.t.n
  wd : ∀ r ∈ rs, r.t.w ∈ six8
structure RPre (rs : List Rw) (t : Nat) : Prop where
  wf : WfR 0 rs
  nm : (rs.map fun r => r.t.n) = (List.range rs.length).map fun k => nm8 t k
  rk : ∀ r ∈ rs, r.t.r ∈ rk4
  ds : ∀ r ∈ rs, r.d ≤ 4
  wd : ∀ r ∈ rs, r.t.w ∈ six8
theorem RPre.step {rs : List Rw} {t : Nat} {r : Rw} (h : RPre rs t) (hd : r.d ≤ lastD 0 rs) (h2 : r.d ≤ 4) (hn : r.t.n = nm8 t rs.length) (hw : r.t.w ∈ six8) (hr : r.t.r ∈ rk4) : RPre (rs ++ [r]) t := by
  refine ⟨wf_snoc h.wf hd, ?_, ?_, ?_, ?_⟩
  · rw [List.map_append, h.nm, List.length_append, List.length_singleton, List.range_succ, List.map_append]
    simp [hn]
  · intro x hx
    rcases List.mem_append.mp hx with hx | hx
    · exact h.rk x hx
    · rw [List.mem_singleton.mp hx]; exact hr
  · intro x hx
    rcases List.mem_append.mp hx with hx | hx
    · exact h.ds x hx
    · rw [List.mem_singleton.mp hx]; exact h2
  · intro x hx
    rcases List.mem_append.mp hx with hx | hx
    · exact h.wd x hx
    · rw [List.mem_singleton.mp hx]; exact hw
theorem RPre.ok {rs : List Rw} {t : Nat} (h : RPre rs t) (hl : rs.length ≤ 14) : ROk rs := by
  refine ⟨h.wf, ?_, h.rk, hl, h.ds, ?_, h.wd⟩
  · rw [h.nm]
    exact nodup_range_map fun a b ha hb e => nm8_inj (by omega) (by omega) e
  · intro r hr
    have : r.t.n ∈ rs.map fun r => r.t.n := List.mem_map.mpr ⟨r, hr, rfl⟩
    rw [h.nm] at this
    obtain ⟨k, _, e⟩ := List.mem_map.mp this
    rw [← e]
    exact nm8_ok
theorem rows_len {ns : List Int} {t : Nat} : ∀ i, (rowsD ns t i).length = i
  | 0 => rfl
  | i + 1 => by rw [rowsD, List.length_append, rows_len i]; rfl
theorem m5_pos {dp : Nat} : 0 < m5 dp ∧ m5 dp ≤ 5 ∧ m5 dp ≤ (dp : Int) + 1 := by
  unfold m5
  split <;> omega
theorem rowsD_pre {ns : List Int} {t : Nat} : ∀ i, RPre (rowsD ns t i) t
  | 0 => ⟨trivial, rfl, (fun r hr => nomatch hr), (fun r hr => nomatch hr), (fun r hr => nomatch hr)⟩
  | i + 1 => by
    have ih := rowsD_pre (ns := ns) (t := t) i
    have hm := m5_pos (dp := lastD 0 (rowsD ns t i))
    have hd := Fd.b (f := fd0 ns (1 + (i : Int))) hm.1
    have e : rowsD ns t (i + 1) = rowsD ns t i ++ [rowD ns t i (lastD 0 (rowsD ns t i))] := rfl
    rw [e]
    have hl := rows_len (ns := ns) (t := t) i
    have ed : (rowD ns t i (lastD 0 (rowsD ns t i))).d = ((fd0 ns (1 + (i : Int))).v (m5 (lastD 0 (rowsD ns t i)))).toNat := rfl
    refine ih.step (by rw [ed]; omega) (by rw [ed]; omega) (by rw [hl]; rfl) ?_ ?_
    · unfold rowD
      dsimp only
      generalize ((((((fd0 ns (1 + (i : Int))).n (m5 (lastD 0 (rowsD ns t i)))).n 12).n 12).n 3).n 3) = f
      have := Fd.b (f := f) (m := 8) (by decide)
      have hl : six8.length = 8 := rfl
      rw [List.getD_eq_getElem?_getD, List.getElem?_eq_getElem (by omega)]
      exact List.getElem_mem _
    · unfold rowD
      dsimp only
      generalize (((((((fd0 ns (1 + (i : Int))).n (m5 (lastD 0 (rowsD ns t i)))).n 12).n 12).n 3).n 3).n 8) = f
      have := Fd.b (f := f) (m := 4) (by decide)
      have hl : rk4.length = 4 := rfl
      rw [List.getD_eq_getElem?_getD, List.getElem?_eq_getElem (by omega)]
      exact List.getElem_mem _
theorem rowsOf_ok (ns : List Int) : ROk (rowsOf ns) := (rowsD_pre _).ok (by
  rw [rows_len]
  have := Fd.b (f := fd0 ns 0) (m := 15) (by decide)
  show ((fd0 ns 0).v 15).toNat ≤ 14
  omega)
end K81

set_option Elab.async false
set_option linter.all false
set_option maxRecDepth 100000
namespace K81
open PySem PySem.Spec PyProof.Rows L2 FW
def RowsAt (S : Sto) (v : Val) (rs : List Rw) : Prop := ∃ R, v = .ref R ∧ S R = some (.lst (rs.map Rw.v))
theorem RowsAt.ext {S S' : Sto} {v : Val} {rs : List Rw} (x : Ext S S') (h : RowsAt S v rs) : RowsAt S' v rs := let ⟨R, h1, h2⟩ := h; ⟨R, h1, x _ _ h2⟩
theorem rows_ok {n : Nat} {ns : List Int} {S : Sto} {P : VP} {X : XP} (h : ∀ S' v, Ext S S' → RowsAt S' v (rowsOf ns) → P v S') : callF T (n + 2) i__law_rows [.scr (ns.map .int)] S P X := by
  refine call_is (fn := f__law_rows) rfl rfl ?_
  simp [f__law_rows, b__law_rows]
  refine fd_ok (by decide) fun p S1 hp x1 f1 => ?_
  have bm := Fd.b (f := fd0 ns 0) (m := 15) (by decide)
  have bt := Fd.b (f := (fd0 ns 0).n 15) (m := 26) (by decide)
  refine nx_ok f1 (by decide) (by decide) fun S2 b2 f2 => ?_
  refine nx_ok f2 (by decide) (by decide) fun S3 b3 f3 => ?_
  rw [show (fd0 ns 0).v 15 = ((manyOf ns : Nat) : Int) by unfold manyOf; omega, show ((fd0 ns 0).n 15).v 26 = ((turnOf ns : Nat) : Int) by unfold turnOf; omega]
  have hm14 : manyOf ns ≤ 14 := by unfold manyOf; omega
  have ht25 : turnOf ns ≤ 25 := by unfold turnOf; omega
  have hrows : rowsOf ns = rowsD ns (turnOf ns) (manyOf ns) := rfl
  rw [hrows] at h
  generalize manyOf ns = m at *
  generalize turnOf ns = t at *
  refine allo_ok fun R S4 hR x4 hR4 => ?_
  simp
  refine ⟨⟨by omega, by omega⟩, ?_⟩
  have e3 : Ext S S3 := (x1.thenB b2 hp).thenB b3 hp
  have hR0 : S R = none := e3.none hR
  have hmn : (rngL 0 m).length = m := rngL_len
  refine forL_inv (rngL 0 m) (fun i ρ S5 => ∃ (x1 x6 x7 x8 x9 : Option Val), ρ = [some (.scr (ns.map .int)), x1, some (.int (m : Nat)), some (.int (t : Nat)), some (.ref R), some (.int (((lastD 0 (rowsD ns t i) : Nat) : Int) - 1)), x6, x7, x8, x9] ∧
    Ext S S5 ∧ S5 R = some (.lst ((rowsD ns t i).map Rw.v)))
    ⟨_, none, none, none, none, rfl, e3.trans x4, hR4⟩ (fun _ _ _ _ => trivial) ?_ ?_
  · rintro i v ρ S5 K hv ⟨x1, x6, x7, x8, x9, rfl, g1, g2⟩ hK
    have hi : i < m := by
      have := (List.getElem?_eq_some_iff.mp hv).1
      rwa [hmn] at this
    rw [rngL_at hi] at hv
    cases hv
    simp
    refine fd_ok (by omega) fun p2 S6 hp2 y6 f6 => ?_
    have hl := rows_len (ns := ns) (t := t) i
    have hm := m5_pos (dp := lastD 0 (rowsD ns t i))
    have em : (if ((lastD 0 (rowsD ns t i) : Nat) : Int) - 1 + 2 < 5 then ((lastD 0 (rowsD ns t i) : Nat) : Int) - 1 + 2 else 5) = m5 (lastD 0 (rowsD ns t i)) := rfl
    rw [em]
    generalize hD : m5 (lastD 0 (rowsD ns t i)) = md at *
    have hr : rowsD ns t (i + 1) = rowsD ns t i ++ [rowD ns t i (lastD 0 (rowsD ns t i))] := rfl
    unfold rowD at hr
    dsimp only at hr
    rw [hD] at hr
    generalize hf0 : fd0 ns (1 + (i : Int)) = F0 at *
    have bd := Fd.b (f := F0) hm.1
    refine nx_ok f6 hm.1 (by omega) fun S7 b7 f7 => ?_
    refine letter_ix (by omega) (by omega) ?_
    have en : ((t : Int) + (i : Int)) % 26 = (((t + i) % 26 : Nat) : Int) := by omega
    have en2 : 1 + (t : Int) % 8 = ((1 + t % 8 : Nat) : Int) := by omega
    rw [en, en2, Int.toNat_natCast]
    refine ⟨by omega, by omega, Nat.le_of_ble_eq_true rfl, ?_⟩
    have nmE : strRep (chr1 (97 + (t + i) % 26)) ((1 + t % 8 : Nat) : Int) = nm8 t i := rfl
    rw [nmE]
    refine nx_ok f7 (by decide) (by decide) fun S8 b8 f8 => ?_
    refine nx_ok f8 (by decide) (by decide) fun S9 b9 f9 => ?_
    refine nx_ok f9 (by decide) (by decide) fun SA bA fA => ?_
    rw [FW.op_add]
    refine nx_ok fA (by decide) (by decide) fun SB bB fB => ?_
    rw [FW.op_add]
    refine allo_ok fun l3 SC hl3 yC eC => ?_
    have l3p := fB.ne hl3
    have bw := Fd.b (f := ((((F0.n md).n 12).n 12).n 3).n 3) (m := 8) (by decide)
    refine nx_ok (fB.ext yC) (by decide) (by decide) fun SD bD fD => ?_
    refine ix_lst (x := .str (six8.getD ((((((F0.n md).n 12).n 12).n 3).n 3).v 8).toNat "")) (bD _ _ l3p eC) ?_ ?_
    · generalize ((((((F0.n md).n 12).n 12).n 3).n 3).v 8) = z at *
      obtain ⟨z, rfl⟩ : ∃ k : Nat, z = (k : Int) := ⟨z.toNat, by omega⟩
      rw [atI_natE]
      show (six8.map Val.str)[z]? = _
      have hl : six8.length = 8 := rfl
      rw [List.getElem?_map, List.getElem?_eq_getElem (by omega), List.getD_eq_getElem?_getD, Int.toNat_natCast, List.getElem?_eq_getElem (by omega)]; rfl
    have xa : Ext S5 SD := (((((((y6.thenB b7 hp2).thenB b8 hp2).thenB b9 hp2).thenB bA hp2).thenB bB hp2).trans yC).thenB bD hp2)
    refine mt_app (xa _ _ g2) (allo_ok fun l4 SE hl4 yE eE => ?_)
    have l4p := fD.ne hl4
    have bk := Fd.b (f := (((((F0.n md).n 12).n 12).n 3).n 3).n 8) (m := 4) (by decide)
    refine nx_ok (fD.ext yE) (by decide) (by decide) fun SF bF fF => ?_
    refine ix_lst (x := .int (rk4.getD (((((((F0.n md).n 12).n 12).n 3).n 3).n 8).v 4).toNat 0)) (bF _ _ l4p eE) ?_ ?_
    · generalize (((((((F0.n md).n 12).n 12).n 3).n 3).n 8).v 4) = z at *
      obtain ⟨z, rfl⟩ : ∃ k : Nat, z = (k : Int) := ⟨z.toNat, by omega⟩
      rw [atI_natE]
      show (rk4.map Val.int)[z]? = _
      have hl : rk4.length = 4 := rfl
      rw [List.getElem?_map, List.getElem?_eq_getElem (by omega), List.getD_eq_getElem?_getD, Int.toNat_natCast, List.getElem?_eq_getElem (by omega)]; rfl
    have xb : Ext S5 SF := (xa.trans yE).thenB bF hp2
    have ed : F0.v md = (((F0.v md).toNat : Nat) : Int) := by omega
    have el : F0.v md = ((lastD 0 (rowsD ns t (i + 1)) : Nat) : Int) - 1 := by
      rw [hr, lastD_snoc]
      simp
      omega
    have er : Val.tup [.int (F0.v md), .str (nm8 t i), .tup [.int ((F0.n md).v 12), .int (((F0.n md).n 12).v 12), .int (1 + (((F0.n md).n 12).n 12).v 3), .int (1 + ((((F0.n md).n 12).n 12).n 3).v 3)], .str (six8.getD ((((((F0.n md).n 12).n 12).n 3).n 3).v 8).toNat ""), .int (rk4.getD (((((((F0.n md).n 12).n 12).n 3).n 3).n 8).v 4).toNat 0)] = (⟨(F0.v md).toNat, ⟨nm8 t i, six8.getD ((((((F0.n md).n 12).n 12).n 3).n 3).v 8).toNat "", rk4.getD (((((((F0.n md).n 12).n 12).n 3).n 3).n 8).v 4).toNat 0⟩, ⟨(F0.n md).v 12, ((F0.n md).n 12).v 12, 1 + (((F0.n md).n 12).n 12).v 3, 1 + ((((F0.n md).n 12).n 12).n 3).v 3⟩⟩ : Rw).v := by
      simp only [Rw.v, Bx.v]
      rw [← ed]
    rw [er]
    rw [el]
    refine do_app (xb _ _ g2) (by rw [List.length_map, hl]; omega) (hK _ _ ⟨_, _, _, _, _, rfl, putNew (g1.trans xb) hR0, ?_⟩)
    rw [put_same, ← el, hr, List.map_append]; rfl
  · rintro ρ S5 ⟨x1, x6, x7, x8, x9, rfl, g1, g2⟩
    rw [hmn] at g2
    exact ⟨_, rfl, h S5 _ g1 ⟨R, rfl, g2⟩⟩
end K81

set_option Elab.async false
set_option linter.all false
set_option maxRecDepth 100000
namespace K81
open PySem PySem.Spec PyProof.Rows L2 FW
theorem hang_ok : ∀ {rs : List Rw}, (∀ r ∈ rs, NameOk r.t.n ∧ r.t.w ∈ six8) → ∀ d, FoOk (hangs rs d)
  | [], _, _ => .nil
  | r :: rs, h, d => by
    have ih := hang_ok (rs := rs) fun s hs => h s (List.mem_cons_of_mem _ hs)
    have sw : ∀ x ∈ six8, SOk x := by decide +kernel
    obtain ⟨h1, h2⟩ := h r List.mem_cons_self
    unfold hangs hangF
    split
    · exact .cons h1.s .box (sw _ h2) .non (ih _) (ih _)
    · split
      · exact .nil
      · exact ih d
theorem sheet_fo {rs : List Rw} (ok : ROk rs) : FoOk (sheetOf rs) := hang_ok (fun r hr => ⟨ok.nm r hr, ok.wd r hr⟩) 0
theorem sheet_deep {rs : List Rw} (ok : ROk rs) : (sheetOf rs).deep ≤ 5 := by
  have := (sheet_rep ok.wf).deep (m := 5) (lines_lens ok.wf fun r hr => by have := ok.ds r hr; omega)
  simpa using this
theorem sheet_size {rs : List Rw} (ok : ROk rs) : (sheetOf rs).size ≤ 14 := by
  rw [(sheet_rep ok.wf).size, lines_len]; exact ok.len
theorem wf_tail {A B : List Rw} : ∀ {k : Nat}, WfR k (A ++ B) → ∃ j, WfR j B := by
  induction A with
  | nil => exact fun h => ⟨_, h⟩
  | cons a A ih => exact fun h => ih h.2
theorem hung_ok {n : Nat} {v : Val} {rs : List Rw} {S : Sto} {P : VP} {X : XP} (hv : RowsAt S v rs) (ok : ROk rs) (h : ∀ S', Ext S S' → P (.tup (sheetOf rs).vs) S') : callF T (n + 1) i__law_hung [v] S P X := by
  obtain ⟨R, rfl, hR⟩ := hv
  refine call_is (fn := f__law_hung) rfl rfl ?_
  simp [f__law_hung, b__law_hung]
  refine waits_start (m := 6) rfl (by decide) fun S1 wl w1 => ?_
  refine ⟨⟨(rs.map Rw.v).reverse, some (R, rs.map Rw.v), none, none⟩, by simp [wkOf, w1.1 _ _ hR], ?_⟩
  refine forL_from (fun r ρ S3 => ∃ (A B : List Rw) (x2 x3 x4 x5 x6 x7 : Option Val), r = (A.map Rw.v).reverse ∧ A ++ B = rs ∧ ρ = [some (.ref R), some (.ref wl), x2, x3, x4, x5, x6, x7] ∧ Waits S S3 wl 6 (hangs B)) ?_ ?_ ?_ _ ⟨rs, [], _, _, _, _, _, _, rfl, by simp, rfl, w1⟩
  · rintro r ρ S3 ⟨A, B, x2, x3, x4, x5, x6, x7, rfl, e, rfl, w⟩
    exact w.1 _ _ hR
  · rintro u r ρ S3 K ⟨A, B, x2, x3, x4, x5, x6, x7, g0, g1, rfl, w⟩ hK
    rcases List.eq_nil_or_concat A with rfl | ⟨A, a, rfl⟩
    · simp at g0
    · rw [List.concat_eq_append] at g0 g1
      simp at g0
      obtain ⟨rfl, rfl⟩ := g0
      have hd : a.d ≤ 4 := ok.ds a (by rw [← g1]; simp)
      simp [Rw.v]
      refine w.take (d := a.d + 1) (by simp) (by omega) fun S4 x4 w4 => ?_
      refine w4.wipe (d := a.d + 1) (by simp) (by omega) fun S5 w5 => ?_
      have hl : (wipeF (hangs B) (a.d + 1) a.d).vs.length < 16777216 := by
        obtain ⟨j, hj⟩ := wf_tail (A := A ++ [a]) (B := B) (k := 0) (by rw [g1]; exact ok.wf)
        have := (hangs_inv (cur := List.replicate j ⟨"", "", 0⟩) (rs := B) (by rw [List.length_replicate]; exact hj)).len a.d
        have l1 := ok.len
        rw [← g1] at l1
        rw [lines_len] at this
        simp at l1
        unfold wipeF
        rw [if_neg (by omega)]
        omega
      refine w5.push (d := a.d) rfl (by omega) hl fun S6 w6 => hK _ _ ⟨A, a :: B, _, _, _, _, _, _, by simp, by rw [← g1]; simp, rfl, ?_⟩
      rw [push_wipe] at w6
      exact w6
  · rintro ρ S3 ⟨A, B, x2, x3, x4, x5, x6, x7, g0, g1, rfl, w⟩
    have : A = [] := by simpa using g0.symm
    subst this
    rw [List.nil_append] at g1
    subst g1
    simp
    exact w.take (d := 0) rfl (by decide) fun S4 x4 w4 => h S4 (w.1.trans x4)
end K81

set_option Elab.async false
set_option linter.all false
set_option maxRecDepth 100000
namespace K81
open PySem PySem.Spec PyProof.Rows L2 FW
theorem opened_eq {rs : List Rw} (ok : ROk rs) : opens (sheetOf rs) = ((FW.linesOf [] rs).filter freeL).map lname :=
  opens_rows (sheet_rep ok.wf) (by rw [lines_names]; exact ok.nd)
theorem rank_of {rs : List Rw} (ok : ROk rs) {l : FW.Line} (hl : l ∈ FW.linesOf [] rs) : rkOf (ents (sheetOf rs)) (lname l) = lrank l := row_rank (sheet_rep ok.wf) (by rw [lines_names]; exact ok.nd) hl
theorem first_ok {n : Nat} {v : Val} {rs : List Rw} {S : Sto} {P : VP} {X : XP} (hv : RowsAt S v rs) (ok : ROk rs) (h : ∀ S', Ext S S' → P (optV (walkF (sheetOf rs)).head?) S') : callF T (n + 1) i__law_first [v] S P X := by
  obtain ⟨R, rfl, hR⟩ := hv
  refine call_is (fn := f__law_first) rfl rfl ?_
  simp [f__law_first, b__law_first]
  refine allo_ok fun np S1 hnp x1 e1 => allo_ok fun lp S2 hlp x2 e2 => ?_
  have lnp : lp ≠ np := fun z => by rw [z, e1] at hlp; cases hlp
  refine semSeq_ref (x2 _ _ (x1 _ _ hR)) ?_
  have hRn : R ≠ np := fun z => by rw [z, hnp] at hR; cases hR
  refine forL_from (fun r ρ S3 => ∃ (A B : List Rw) (LA : List FW.Line) (cur : FW.Line) (l : Addr) (x3 x4 x5 x6 x7 x8 : Option Val), r = B.map Rw.v ∧ A ++ B = rs ∧ LA ++ FW.linesOf cur B = FW.linesOf [] rs ∧ LA.length = A.length ∧ WfR cur.length B ∧
    ρ = [some (.ref R), some (.ref np), some (.ref l), x3, x4, x5, x6, x7, x8] ∧ l ≠ np ∧ ExtB np S2 S3 ∧ S3 l = some (.lst (cur.map fun t => .str t.w)) ∧ S3 np = some (.lst (quads (ents (sheetOf rs)) 0 ((LA.filter freeL).map lname)))) ?_ ?_ ?_ _
    ⟨[], rs, [], [], lp, _, _, _, _, _, _, rfl, rfl, rfl, rfl, ok.wf, rfl, lnp, .refl, e2, x2 _ _ e1⟩
  · rintro r ρ S3 ⟨A, B, LA, cur, l, x3, x4, x5, x6, x7, x8, rfl, g1, g2, g3, g4, rfl, g5, g6, g7, g8⟩
    exact g6 _ _ hRn (x2 _ _ (x1 _ _ hR))
  · rintro u r ρ S3 K ⟨A, B, LA, cur, l, x3, x4, x5, x6, x7, x8, g0, g1, g2, g3, g4, rfl, g5, g6, g7, g8⟩ hK
    cases B with
    | nil => cases g0
    | cons a B =>
      simp only [List.map_cons, List.cons.injEq] at g0
      obtain ⟨rfl, rfl⟩ := g0
      have hd : a.d ≤ 4 := ok.ds a (by rw [← g1]; simp)
      simp [Rw.v]
      refine sl_lst g7 (allo_ok fun p1 S4 hp1 y1 k1 => allo_ok fun p2 S5 hp2 y2 k2 => ⟨_, _, y2 _ _ k1, k2, ?_, allo_ok fun p3 S6 hp3 y3 k3 => ?_⟩)
      · rw [cut_to]; simp; omega
      rw [cut_to] at k3
      have e3 : List.take a.d (cur.map fun t => Val.str t.w) ++ [Val.str a.t.w] = (cur.take a.d ++ [a.t]).map fun t => Val.str t.w := by simp [List.map_take]
      rw [e3] at k3
      have y13 : Ext S3 S6 := (y1.trans y2).trans y3
      have g8' := y13 _ _ g8
      have p3n : p3 ≠ np := fun z => by rw [z, y2 _ _ (y1 _ _ g8)] at hp3; cases hp3
      simp [ev_lc]
      refine semSeq_ref k3 ?_
      refine lcLoop_pure (fun v => match v with | .str w => some (.bl (decide (w = "free"))) | _ => none) k3 _ _ ?_ ?_ ?_
      · simp; omega
      · intro v hv K hK
        obtain ⟨t, ht, rfl⟩ := List.mem_map.mp hv
        simp [lcTurn, lcTg]
        exact hK
      · refine allo_ok fun z S7 hz z7 hz7 => ?_
        rw [List.nil_append, List.filterMap_map] at hz7
        have ef : (cur.take a.d ++ [a.t]).filterMap ((fun v => match v with | .str w => some (.bl (decide (w = "free"))) | _ => none) ∘ fun t : FW.Tr => Val.str t.w) = ((cur.take a.d ++ [a.t]).map fun t : FW.Tr => decide (t.w = ("free" : Str))).map Val.bl := by
          rw [List.map_map, ← List.filterMap_eq_map]; rfl
        rw [ef] at hz7
        refine bi_all hz7 ?_
        have e2 : ((cur.take a.d ++ [a.t]).map fun t : FW.Tr => decide (t.w = ("free" : Str))).all id = freeL (cur.take a.d ++ [a.t]) := by rw [List.all_map]; rfl
        rw [e2]
        have hlen : (FW.linesOf [] rs).length ≤ 14 := by rw [lines_len]; exact ok.len
        rw [FW.linesOf] at g2
        cases hf : freeL (cur.take a.d ++ [a.t]) with
        | false =>
          exact .inl ⟨rfl, hK _ _ ⟨A ++ [a], B, LA ++ [cur.take a.d ++ [a.t]], cur.take a.d ++ [a.t], p3, _, _, _, _, _, _, rfl, by rw [← g1]; simp, by rw [← g2]; simp, by simp [g3], by rw [takeLen g4.1]; exact g4.2, rfl, p3n, (g6.trans (.of y13)).trans (.of z7), z7 _ _ k3, by rw [z7 _ _ g8']; simp [hf]⟩⟩
        | true =>
          have hll : LA.length ≤ 14 := by
            have := congrArg List.length g2
            simp at this; omega
          have hfl : ((LA.filter freeL).map lname).length ≤ 14 := by
            rw [List.length_map]; exact Nat.le_trans (List.length_filter_le _ _) hll
          have hql : (quads (ents (sheetOf rs)) 0 ((LA.filter freeL).map lname)).length = ((LA.filter freeL).map lname).length := quads_len
          have hlin : (cur.take a.d ++ [a.t]) ∈ FW.linesOf [] rs := by rw [← g2]; simp
          have hrk := rank_of ok hlin
          rw [lname_app, lrank_app] at hrk
          refine .inr ⟨rfl, mt_app (z7 _ _ g8') (len_lst (z7 _ _ g8') ?_)⟩
          refine do_app (z7 _ _ g8') (by omega) (hK _ _ ⟨A ++ [a], B, LA ++ [cur.take a.d ++ [a.t]], cur.take a.d ++ [a.t], p3, _, _, _, _, _, _, rfl, by rw [← g1]; simp, by rw [← g2]; simp, by simp [g3], by rw [takeLen g4.1]; exact g4.2, rfl, p3n, ((g6.trans (.of y13)).trans (.of z7)).trans .put, by rw [put_ne p3n]; exact z7 _ _ k3, ?_⟩)
          rw [put_same]
          simp [hf, lname_app, quads_app, quads, quad, hrk, hql]
  · rintro ρ S3 ⟨A, B, LA, cur, l, x3, x4, x5, x6, x7, x8, g0, g1, g2, g3, g4, rfl, g5, g6, g7, g8⟩
    have : B = [] := by simpa using g0.symm
    subst this
    rw [FW.linesOf, List.append_nil] at g2
    subst g2
    simp
    have ho := opened_eq ok
    rw [← ho] at g8
    have x03 : Ext S S3 := ((ExtB.of (x1.trans x2)).trans g6).ext hnp
    have hnm : ∀ x ∈ opens (sheetOf rs), SOk x := fun x hx => by
      rw [ho] at hx
      obtain ⟨l, hl, rfl⟩ := List.mem_map.mp hx
      have : lname l ∈ (FW.linesOf [] rs).map lname := List.mem_map.mpr ⟨l, (List.mem_filter.mp hl).1, rfl⟩
      rw [lines_names] at this
      obtain ⟨r, hr, e⟩ := List.mem_map.mp this
      rw [← e]
      exact (ok.nm r hr).s
    have pq : Pvs (quads (ents (sheetOf rs)) 0 (opens (sheetOf rs))) 63 := .of fun v hv => by
      obtain ⟨j, x, rfl, hx⟩ := quads_mem hv
      exact (Pv.tup (.cons .int (.cons .int (.cons .int (.cons (.str (hnm x hx)) .nil)))) : Pv _ 1).mono (by decide)
    refine allo_ok fun q S4 hq x4 e4 => ?_
    refine eq_lsts (x4 _ _ g8) e4 pq .nil ?_
    have hw : walkF (sheetOf rs) = ((quads (ents (sheetOf rs)) 0 (opens (sheetOf rs))).mergeSort vle).map fourth := rfl
    cases hqs : quads (ents (sheetOf rs)) 0 (opens (sheetOf rs)) with
    | nil =>
      rw [hqs] at hw
      have := h S4 (x03.trans x4)
      rw [hw] at this
      exact .inr ⟨rfl, by simpa [optV] using this⟩
    | cons w0 wt =>
      rw [show PyData.eqvAll (Val.pds (w0 :: wt)) (Val.pds []) = false by simp [Val.pds, PyData.eqvAll]]
      refine .inl ⟨rfl, ?_⟩
      refine .inr ⟨quads (ents (sheetOf rs)) 0 (opens (sheetOf rs)), by simp [x4 _ _ g8], quads_purs, quads_alike, quads_sortable, quads_depth, by rw [hqs]; simp, fun w hwm hmin => ?_⟩
      have hqm := quads_mem hwm
      have hd : ((quads (ents (sheetOf rs)) 0 (opens (sheetOf rs))).mergeSort vle).head? = some w := by
        have hp : ((quads (ents (sheetOf rs)) 0 (opens (sheetOf rs))).mergeSort vle).Perm (quads (ents (sheetOf rs)) 0 (opens (sheetOf rs))) := List.mergeSort_perm _ _
        have hs := List.pairwise_mergeSort (le := vle) vle_trans vle_total (quads (ents (sheetOf rs)) 0 (opens (sheetOf rs)))
        generalize (quads (ents (sheetOf rs)) 0 (opens (sheetOf rs))).mergeSort vle = L at hp hs
        cases L with
        | nil =>
          have := hp.mem_iff.mpr hwm
          cases this
        | cons z L =>
          have hz := hp.mem_iff.mp (List.mem_cons_self (a := z) (l := L))
          have h1 := hmin z hz
          rcases List.mem_cons.mp (hp.mem_iff.mpr hwm) with e | hm
          · rw [e]; rfl
          · have h2 := (List.pairwise_cons.mp hs).1 w hm
            obtain ⟨j, x, rfl, _⟩ := quads_mem hz
            obtain ⟨j', x', rfl, _⟩ := hqm
            rw [quad_is, quad_is] at *
            have := q4_inj (vle_toks h1 h2)
            rw [this]; rfl
      obtain ⟨j, x, rfl, _⟩ := hqm
      have := h S4 (x03.trans x4)
      rw [hw, List.head?_map, hd] at this
      simp [quad]
      exact this
end K81

set_option Elab.async false
set_option linter.all false
set_option maxRecDepth 100000
/-! a walker's methods -/
namespace K81
open PySem PySem.Spec PyProof.Rows L2 FW
theorem is_open_ok {n : Nat} {fo : Fo} {x : Str} {S : Sto} {P : VP} {X : XP} (hd : fo.deep < n) (hz : fo.size ≤ 1000) (nd : ((ents fo).map Ent.n).Nodup) (hx : x ∈ opens fo) (h : ∀ S', Ext S S' → P (.bl true) S') : callF T (n + 6) i_is_open [.tup fo.vs, .str x] S P X := by
  obtain ⟨e, he, _, _, hw⟩ := open_why nd hx
  refine call_is (fn := f_is_open) rfl rfl ?_
  simp [f_is_open, b_is_open]
  refine why_not_ok (n := n + 1) (by omega) hz nd he fun S1 x1 => ?_
  rw [hw]
  simp
  exact h S1 x1
theorem tops_fm : ∀ fo : Fo, fo.vs.filterMap (fun v => match v with | .tup (.str n :: _) => some (Val.str n) | _ => none) = fo.tops.map .str
  | .nil => rfl
  | .cons n b w r h cs ts => by
    rw [Fo.vs, List.filterMap_cons, Fo.tops, List.map_cons, ← tops_fm ts]
theorem inner_of_ok {n : Nat} {fo : Fo} {x : Str} {e : Ent} {S : Sto} {P : VP} {X : XP} (hd : fo.deep < n) (hz : fo.size ≤ 1000) (hl : e.cs.vs.length ≤ 1000) (hx : at_ (ents fo) x = some e) (h : ∀ S' q, Ext S S' → S q = none → S' q = some (.lst (e.cs.tops.map .str)) → P (.ref q) S') : callF T (n + 5) i_inner_of [.tup fo.vs, .str x] S P X := by
  refine call_is (fn := f_inner_of) rfl rfl ?_
  simp [f_inner_of, b_inner_of, ev_lc]
  refine call_is (fn := f_part_of) rfl rfl ?_
  simp [f_part_of, b_part_of]
  refine entry_of_ok (n := n + 1) (by omega) hz hx fun S1 v x1 hv => ?_
  obtain ⟨a, rfl, ha⟩ := hv
  simp [Ent.pv]
  refine lcLoop_pure (fun v => match v with | .tup (.str n :: _) => some (Val.str n) | _ => none) trivial _ _ (by simp; omega) ?_ ?_
  · intro v hv K hK
    have : ∀ fo : Fo, v ∈ fo.vs → ∃ n r, v = .tup (.str n :: r) := fun fo => by
      induction fo with
      | nil => intro h; cases h
      | cons n b w r h cs ts _ ih =>
        intro h
        rw [Fo.vs] at h
        rcases List.mem_cons.mp h with rfl | h
        · exact ⟨_, _, rfl⟩
        · exact ih h
    obtain ⟨n, r, rfl⟩ := this _ hv
    simp [lcTurn, lcTg]
    exact hK
  · refine allo_ok fun q S2 hq x2 e2 => ?_
    rw [List.nil_append, tops_fm] at e2
    exact h S2 q (x1.trans x2) (x1.none hq) e2
def wfs (fo : Fo) (sp : Val) (kd rd : Addr) : List (Str × Val) := [("page", .tup fo.vs), ("spot", sp), ("kept", .ref kd), ("road", .ref rd)]
theorem bsp : (("spot" : Str) == "page") = false := by decide +kernel
theorem bkp : (("kept" : Str) == "page") = false := by decide +kernel
theorem bks : (("kept" : Str) == "spot") = false := by decide +kernel
theorem brp : (("road" : Str) == "page") = false := by decide +kernel
theorem brs : (("road" : Str) == "spot") = false := by decide +kernel
theorem brk : (("road" : Str) == "kept") = false := by decide +kernel
section
variable {fo : Fo} {sp v : Val} {kd rd : Addr}
@[simp] theorem lkP : List.lookup ("page" : Str) (wfs fo sp kd rd) = some (.tup fo.vs) := by simp [wfs, List.lookup]
@[simp] theorem lkS : List.lookup ("spot" : Str) (wfs fo sp kd rd) = some sp := by simp [wfs, List.lookup, bsp]
@[simp] theorem lkK : List.lookup ("kept" : Str) (wfs fo sp kd rd) = some (.ref kd) := by simp [wfs, List.lookup, bkp, bks]
@[simp] theorem lkR : List.lookup ("road" : Str) (wfs fo sp kd rd) = some (.ref rd) := by simp [wfs, List.lookup, brp, brs, brk]
theorem lkM {m : Str} (h1 : (m == "page") = false) (h2 : (m == "spot") = false) (h3 : (m == "kept") = false) (h4 : (m == "road") = false) : List.lookup (m : Str) (wfs fo sp kd rd) = none := by simp [wfs, List.lookup, h1, h2, h3, h4]
@[simp] theorem lkc : List.lookup ("come_to" : Str) (wfs fo sp kd rd) = none := lkM (by decide +kernel) (by decide +kernel) (by decide +kernel) (by decide +kernel)
@[simp] theorem lki : List.lookup ("into_kept" : Str) (wfs fo sp kd rd) = none := lkM (by decide +kernel) (by decide +kernel) (by decide +kernel) (by decide +kernel)
@[simp] theorem lkp : List.lookup ("press" : Str) (wfs fo sp kd rd) = none := lkM (by decide +kernel) (by decide +kernel) (by decide +kernel) (by decide +kernel)
@[simp] theorem lkt : List.lookup ("stand" : Str) (wfs fo sp kd rd) = none := lkM (by decide +kernel) (by decide +kernel) (by decide +kernel) (by decide +kernel)
@[simp] theorem lkl : List.lookup ("told" : Str) (wfs fo sp kd rd) = none := lkM (by decide +kernel) (by decide +kernel) (by decide +kernel) (by decide +kernel)
@[simp] theorem lkh : List.lookup ("sheet" : Str) (wfs fo sp kd rd) = none := lkM (by decide +kernel) (by decide +kernel) (by decide +kernel) (by decide +kernel)
@[simp] theorem wfs_len : (wfs fo sp kd rd).length = 4 := rfl
@[simp] theorem fput_s : fput "spot" v (wfs fo sp kd rd) = wfs fo v kd rd := by
  have : (("page" : Str) = "spot") = False := by decide +kernel
  simp [wfs, fput, this]
end
/-- a walker in the store -/
structure WkAt (S : Sto) (w kd rd : Addr) (fo : Fo) (spot : Option Str) (D : List (Val × Val)) (road : List Str) : Prop where
  o : S w = some (.ins "Walker" (wfs fo (optV spot) kd rd))
  k : S kd = some (.dic D)
  r : S rd = some (.lst (road.map .str))
theorem WkAt.ext {S S' : Sto} {w kd rd : Addr} {fo : Fo} {spot : Option Str} {D : List (Val × Val)} {road : List Str} (h : WkAt S w kd rd fo spot D road) (x : Ext S S') : WkAt S' w kd rd fo spot D road := ⟨x _ _ h.o, x _ _ h.k, x _ _ h.r⟩
/-- all but a walker's own stays -/
def Ext3 (w kd rd : Addr) (S S' : Sto) : Prop := ∀ a o, a ≠ w → a ≠ kd → a ≠ rd → S a = some o → S' a = some o
theorem Ext3.of {w kd rd : Addr} {S S' : Sto} (x : Ext S S') : Ext3 w kd rd S S' := fun a o _ _ _ h => x a o h
theorem Ext3.trans {w kd rd : Addr} {S S' S2 : Sto} (x : Ext3 w kd rd S S') (y : Ext3 w kd rd S' S2) : Ext3 w kd rd S S2 := fun a o h1 h2 h3 h => y a o h1 h2 h3 (x a o h1 h2 h3 h)
section
variable {S : Sto} {w kd rd : Addr} {fo : Fo} {spot : Option Str} {D : List (Val × Val)} {road : List Str} (W : WkAt S w kd rd fo spot D road)
include W
theorem WkAt.ne : w ≠ kd ∧ w ≠ rd ∧ kd ≠ rd :=
  ⟨fun z => (by have := W.o; rw [z, W.k] at this; cases this), fun z => (by have := W.o; rw [z, W.r] at this; cases this), fun z => (by have := W.k; rw [z, W.r] at this; cases this)⟩
theorem WkAt.putR {road' : List Str} : WkAt (S.put rd (.lst (road'.map .str))) w kd rd fo spot D road' ∧ Ext3 w kd rd S (S.put rd (.lst (road'.map .str))) :=
  ⟨⟨by rw [put_ne W.ne.2.1]; exact W.o, by rw [put_ne W.ne.2.2]; exact W.k, put_same⟩, fun a o _ _ h h2 => by rw [put_ne h]; exact h2⟩
theorem WkAt.putK {D' : List (Val × Val)} : WkAt (S.put kd (.dic D')) w kd rd fo spot D' road ∧ Ext3 w kd rd S (S.put kd (.dic D')) :=
  ⟨⟨by rw [put_ne W.ne.1]; exact W.o, put_same, by rw [put_ne (Ne.symm W.ne.2.2)]; exact W.r⟩, fun a o _ h _ h2 => by rw [put_ne h]; exact h2⟩
theorem WkAt.putO {spot' : Option Str} : WkAt (S.put w (.ins "Walker" (wfs fo (optV spot') kd rd))) w kd rd fo spot' D road ∧ Ext3 w kd rd S (S.put w (.ins "Walker" (wfs fo (optV spot') kd rd))) :=
  ⟨⟨put_same, by rw [put_ne (Ne.symm W.ne.1)]; exact W.k, by rw [put_ne (Ne.symm W.ne.2.1)]; exact W.r⟩, fun a o h _ _ h2 => by rw [put_ne h]; exact h2⟩
theorem stand_ok {n : Nat} {P : VP} {X : XP} (h : P (optV spot) S) : callF T (n + 1) i_Walker_stand [.ref w] S P X := by
  refine call_is (fn := f_Walker_stand) rfl rfl ?_
  simp [f_Walker_stand, b_Walker_stand, W.o]
  exact h
theorem sheet_ok {n : Nat} {P : VP} {X : XP} (h : P (.tup fo.vs) S) : callF T (n + 1) i_Walker_sheet [.ref w] S P X := by
  refine call_is (fn := f_Walker_sheet) rfl rfl ?_
  simp [f_Walker_sheet, b_Walker_sheet, W.o]
  exact h
theorem told_ok {n : Nat} {P : VP} {X : XP} (h : ∀ S' q, Ext S S' → S q = none → S' q = some (.lst (road.map .str)) → P (.ref q) S') : callF T (n + 1) i_Walker_told [.ref w] S P X := by
  refine call_is (fn := f_Walker_told) rfl rfl ?_
  simp [f_Walker_told, b_Walker_told, W.o]
  exact bi_list_lst W.r (allo_ok fun q S' hq x e => h S' q x hq e)
theorem come_ok {n : Nat} {y : Str} {P : VP} {X : XP} (hl : road.length ≤ 1000) (h : ∀ S', Ext3 w kd rd S S' → WkAt S' w kd rd fo (some y) D (if spot = some y then road else road ++ [y]) → P .non S') : callF T (n + 1) i_Walker_come_to [.ref w, .str y] S P X := by
  refine call_is (fn := f_Walker_come_to) rfl rfl ?_
  simp [f_Walker_come_to, b_Walker_come_to, W.o]
  have same : spot = some y → P .non (S.put w (.ins "Walker" (wfs fo (.str y) kd rd))) := fun e => by
    have := W.putO (spot' := some y)
    refine h _ this.2 ?_
    rw [if_pos e]
    exact this.1
  have other : spot ≠ some y → ∃ T, mtTy Mt.append (.ref rd) S = some T ∧ semMt Mt.append T (.ref rd) [.str y] S fun _ S1 => ∃ x, S1 w = some (.ins "Walker" x) ∧ x.length < 1000 ∧ P .non (S1.put w (.ins "Walker" (fput "spot" (.str y) x))) := fun e => by
    refine mt_app W.r (do_app W.r (by simp; omega) ?_)
    rw [show road.map Val.str ++ [.str y] = (road ++ [y]).map .str by simp]
    have r1 := W.putR (road' := road ++ [y])
    have r2 := r1.1.putO (spot' := some y)
    refine ⟨_, r1.1.o, by simp, ?_⟩
    rw [fput_s]
    refine h _ (r1.2.trans r2.2) ?_
    rw [if_neg e]
    exact r2.1
  cases hs : spot with
  | none =>
    simp [optV]
    have := other (by rw [hs]; exact fun z => nomatch z)
    simpa using this
  | some x =>
    simp [optV]
    by_cases e : y = x
    · subst e
      exact .inl ⟨rfl, same hs⟩
    · have := other (by rw [hs]; exact fun z => e (Option.some.inj z).symm)
      exact .inr ⟨e, by simpa using this⟩
end
end K81

set_option Elab.async false
set_option linter.all false
set_option maxRecDepth 100000
/-! into_kept, press, a walker made -/
namespace K81
open PySem PySem.Spec PyProof.Rows L2 FW
def tl : Sts → Sts
  | .cons _ s => s
  | .nil => .nil
/-- what a walker's sheet is -/
structure ShOk (fo : Fo) : Prop where
  dp : fo.deep ≤ 5
  sz : fo.size ≤ 14
  nd : ((ents fo).map Ent.n).Nodup
  bx : ∀ d ∈ ents fo, BoxOk d.b
theorem ent_cs {fo : Fo} : ∀ (anc : List Str) (pl : List Val) (k : Nat), ∀ e ∈ lay anc pl k fo, e.cs.vs.length ≤ fo.size := by
  induction fo with
  | nil => intro anc pl k e h; simp [lay] at h
  | cons n b w r h cs ts ic it =>
    intro anc pl k e he
    simp only [lay, List.mem_cons, List.mem_append] at he
    rw [Fo.size]
    rcases he with rfl | he | he
    · have := vs_size cs
      show cs.vs.length ≤ _
      omega
    · have := ic _ _ _ e he; omega
    · have := it _ _ _ e he; omega
def goalO (D : List (Val × Val)) (x : Str) (i : Nat) (o : Option Str) : Option Str := if i = 6 then (match dget D (.str x) with | some (.str y) => some y | _ => o) else o
def bookO (D : List (Val × Val)) (x : Str) (i : Nat) (g : Option Str) : List (Val × Val) := if i = 7 then (match g with | some y => dput D (.str y) (.str x) | none => D) else D
def roadO (road : List Str) (x : Str) (g : Option Str) : List Str := match g with | some y => if x = y then road else road ++ [y] | none => road
theorem keys_into {i : Nat} {key : Str} (h : keys8[i]? = some key) : (key = "into" ↔ i = 6) ∧ (key = "out" ↔ i = 7) := by
  have hi : i < 8 := (List.getElem?_eq_some_iff.mp h).1
  have : i = 0 ∨ i = 1 ∨ i = 2 ∨ i = 3 ∨ i = 4 ∨ i = 5 ∨ i = 6 ∨ i = 7 := by omega
  rcases this with rfl | rfl | rfl | rfl | rfl | rfl | rfl | rfl <;> (cases h; decide +kernel)
section
variable {S : Sto} {w kd rd : Addr} {fo : Fo} {D : List (Val × Val)} {road : List Str} {x : Str} (so : ShOk fo) (bk : BkOk fo D)
include so bk
theorem into_kept_ok {n : Nat} {P : VP} {X : XP} (W : WkAt S w kd rd fo (some x) D road) (hx : x ∈ opens fo) (h : ∀ S', Ext S S' → P ((dget D (.str x)).getD .non) S') : callF T (n + 13) i_Walker_into_kept [.ref w] S P X := by
  refine call_is (fn := f_Walker_into_kept) rfl rfl ?_
  simp [f_Walker_into_kept, b_Walker_into_kept, W.o, optV]
  refine ⟨.dict, by simp [mtTy, W.k], _, look_dic W.k (bk.suits x), ?_⟩
  cases hg : dget D (.str x) with
  | none =>
    simp
    have := h S .refl
    rw [hg] at this
    exact this
  | some v =>
    obtain ⟨y, rfl, hy, d, hd, hdn, hk⟩ := bk.get hg
    obtain ⟨e, he, hem, hen, _⟩ := open_why so.nd hx
    have : e = d := by
      have := at_uniq so.nd hd
      rw [hdn, he] at this
      exact Option.some.inj this
    subst this
    simp
    refine ⟨_, W.o, _, lkP, _, W.o, _, lkS, ?_⟩
    refine inner_of_ok (n := n + 7) (by have := so.dp; omega) (by have := so.sz; omega) (by have := ent_cs [] [] 0 e hem; have := so.sz; omega) he fun S1 q x1 hq e1 => ?_
    refine in_flat (w := .ref q) (vs := e.cs.tops.map .str) (fun z q => nomatch q) (by simp [e1]) rfl (flats_str _) ?_
    rw [memW_str, decide_eq_true hk]
    refine .inl ⟨rfl, ?_⟩
    have := W.ext x1
    simp [this.o]
    refine is_open_ok (n := n + 6) (by have := so.dp; omega) (by have := so.sz; omega) so.nd hy fun S2 x2 => ?_
    have := h S2 (x1.trans x2)
    rw [hg] at this
    simp
    exact this
omit so bk in
theorem press_end {n : Nat} {g : Option Str} {key : Str} {P : VP} {X : XP} (W : WkAt S w kd rd fo (some x) D road) (hr : road.length ≤ 1000) (h : ∀ S', Ext3 w kd rd S S' → WkAt S' w kd rd fo (some (g.getD x)) D (roadO road x g) → P (.str (g.getD x)) S') :
    exs (callF T (n + 1)) (tl (tl (tl (tl (tl b_Walker_press))))) [some (.ref w), some (.str key), some (optV g)] S ⟨fun _ S1 => P .non S1, P, fun _ => X⟩ := by
  simp [tl, b_Walker_press, -List.lookup_eq_none_iff]
  cases g with
  | none =>
    refine .inl ⟨rfl, _, W.o, _, lkS, ?_⟩
    exact h S (fun a o _ _ _ z => z) W
  | some y =>
    refine .inr ⟨by simp [optV], _, W.o, lkc, come_ok W hr fun S1 x1 W1 => ⟨_, W1.o, _, lkS, ?_⟩⟩
    refine h S1 x1 ?_
    have : roadO road x (some y) = if some x = some y then road else road ++ [y] := by simp [roadO]
    rw [this]
    exact W1
omit so bk in
theorem press_out {n i : Nat} {g : Option Str} {key : Str} {P : VP} {X : XP} (k7 : key = "out" ↔ i = 7) (bs : ∀ y, suits D (.str y) = true) (W : WkAt S w kd rd fo (some x) D road) (hl : D.length ≤ 1000) (hr : road.length ≤ 1000) (h : ∀ S', Ext3 w kd rd S S' → WkAt S' w kd rd fo (some (g.getD x)) (bookO D x i g) (roadO road x g) → P (.str (g.getD x)) S') :
    exs (callF T (n + 1)) (tl (tl (tl (tl b_Walker_press)))) [some (.ref w), some (.str key), some (optV g)] S ⟨fun _ S1 => P .non S1, P, fun _ => X⟩ := by
  have fin : ∀ {D' : List (Val × Val)} {S1 : Sto}, Ext3 w kd rd S S1 → WkAt S1 w kd rd fo (some x) D' road → D' = bookO D x i g → exs (callF T (n + 1)) (tl (tl (tl (tl (tl b_Walker_press))))) [some (.ref w), some (.str key), some (optV g)] S1 ⟨fun _ S1 => P .non S1, P, fun _ => X⟩ := fun y W1 e => press_end W1 hr fun S2 y2 W2 => h S2 (y.trans y2) (e ▸ W2)
  have e0 : b_Walker_press = b_Walker_press := rfl
  show exs (callF T (n + 1)) (tl (tl (tl (tl b_Walker_press)))) _ _ _
  have et : ∃ s, tl (tl (tl (tl b_Walker_press))) = .cons s (tl (tl (tl (tl (tl b_Walker_press))))) := ⟨_, rfl⟩
  obtain ⟨s, hs⟩ := et
  have hs2 : s = .ite (.band (.cons (.cmp .eq (.var 1) (.con (.str "out"))) (.cons (.cmp .notN (.var 2) (.con .non)) .nil))) (.cons (.sub (.fld "Walker" (.var 0) "kept") (.var 2) (.fld "Walker" (.var 0) "spot")) .nil) .nil := by
    have := hs
    simp only [tl, b_Walker_press] at this
    cases this
    rfl
  rw [hs, exs_cons, hs2]
  generalize (tl (tl (tl (tl (tl b_Walker_press))))) = rest at fin
  simp
  by_cases hk : key = "out"
  · have h7 := k7.mp hk
    refine .inr ⟨hk, ?_⟩
    cases g with
    | none => exact .inl ⟨rfl, fin (fun a o _ _ _ z => z) W (by simp [bookO])⟩
    | some y =>
      refine .inr ⟨by simp [optV], _, W.o, _, lkS, _, W.o, _, lkK, ?_⟩
      have := W.putK (D' := dput D (.str y) (.str x))
      exact set_dic W.k (bs y) (by omega) (fin this.2 this.1 (by simp [bookO, h7]))
  · exact .inl ⟨hk, fin (fun a o _ _ _ z => z) W (by unfold bookO; rw [if_neg (fun z => hk (k7.mpr z))])⟩
theorem press_into {n i : Nat} {o : Option Str} {key : Str} {P : VP} {X : XP} (k6 : key = "into" ↔ i = 6) (W : WkAt S w kd rd fo (some x) D road) (hx : x ∈ opens fo)
    (fin : ∀ S1, Ext S S1 → exs (callF T (n + 14)) (tl (tl (tl (tl b_Walker_press)))) [some (.ref w), some (.str key), some (optV (goalO D x i o))] S1 ⟨fun _ S1 => P .non S1, P, fun _ => X⟩) :
    exs (callF T (n + 14)) (tl (tl (tl b_Walker_press))) [some (.ref w), some (.str key), some (optV o)] S ⟨fun _ S1 => P .non S1, P, fun _ => X⟩ := by
  have hs : tl (tl (tl b_Walker_press)) = .cons (.ite (.band (.cons (.cmp .eq (.var 1) (.con (.str "into"))) (.cons (.cmp .notN (.met "Walker" "into_kept" i_Walker_into_kept (.var 0) .nil) (.con .non)) .nil))) (.cons (.set 2 (.met "Walker" "into_kept" i_Walker_into_kept (.var 0) .nil)) .nil) .nil) (tl (tl (tl (tl b_Walker_press)))) := rfl
  rw [hs, exs_cons]
  generalize tl (tl (tl (tl b_Walker_press))) = rest at fin
  simp [-List.lookup_eq_none_iff]
  by_cases hk : key = "into"
  · have h6 := k6.mp hk
    refine .inr ⟨hk, _, W.o, lki, into_kept_ok (n := n + 1) so bk W hx fun S1 x1 => ?_⟩
    have W1 := W.ext x1
    cases hg : dget D (.str x) with
    | none =>
      have := fin S1 x1
      unfold goalO at this
      rw [if_pos h6, hg] at this
      exact .inl ⟨rfl, this⟩
    | some v =>
      obtain ⟨y, rfl, _⟩ := bk.get hg
      refine .inr ⟨by simp, _, W1.o, lki, into_kept_ok (n := n + 1) so bk W1 hx fun S2 x2 => ?_⟩
      have := fin S2 (x1.trans x2)
      unfold goalO at this
      rw [if_pos h6, hg] at this
      rw [hg]
      exact this
  · have := fin S .refl
    unfold goalO at this
    rw [if_neg (fun z => hk (k6.mpr z))] at this
    exact .inl ⟨hk, this⟩
theorem press_ok {n i : Nat} {key : Str} {e : Ent} {o : Option Str} {P : VP} {X : XP} (W : WkAt S w kd rd fo (some x) D road) (hx : x ∈ opens fo) (he : at_ (ents fo) x = some e) (hi : keys8[i]? = some key) (ht : (tabV fo e)[i]? = some (optV o)) (hl : D.length ≤ 1000) (hr : road.length ≤ 1000)
    (h : ∀ S', Ext3 w kd rd S S' → WkAt S' w kd rd fo (some ((goalO D x i o).getD x)) (bookO D x i (goalO D x i o)) (roadO road x (goalO D x i o)) → P (.str ((goalO D x i o).getD x)) S') : callF T (n + 15) i_Walker_press [.ref w, .str key] S P X := by
  refine call_is (fn := f_Walker_press) rfl rfl ?_
  obtain ⟨k6, k7⟩ := keys_into hi
  have fin : ∀ {S1 : Sto}, Ext S S1 → exs (callF T (n + 14)) (tl (tl (tl (tl b_Walker_press)))) [some (.ref w), some (.str key), some (optV (goalO D x i o))] S1 ⟨fun _ S1 => P .non S1, P, fun _ => X⟩ := fun y => press_out (n := n + 13) k7 bk.suits (W.ext y) hl hr fun S2 y2 W2 => h S2 ((Ext3.of y).trans y2) W2
  show exs (callF T (n + 14)) b_Walker_press [some (.ref w), some (.str key), none] S _
  have hs : b_Walker_press = .cons (.ite (.cmp .nmem (.var 1) (.glo "KEYS" (.kt (keys8.map .str)))) (.cons (.raise "NoKey" "" .no) .nil) .nil) (.cons (.ite (.cmp .isN (.fld "Walker" (.var 0) "spot") (.con .non)) (.cons (.ret (.con .non)) .nil) .nil) (.cons (.set 2 (.call i_goes (.cons (.fld "Walker" (.var 0) "page") (.cons (.fld "Walker" (.var 0) "spot") (.cons (.var 1) .nil))))) (tl (tl (tl b_Walker_press))))) := rfl
  have fin2 := fun S1 (y : Ext S S1) => press_into (n := n) (i := i) (o := o) so bk k6 (W.ext y) hx fun S2 y2 => fin (y.trans y2)
  rw [hs]
  generalize tl (tl (tl b_Walker_press)) = rest at fin2
  obtain ⟨e', he', hem, hen, hw⟩ := open_why so.nd hx
  rw [he] at he'
  cases he'
  have mem : ∀ (Q : Bool → Prop), Q true → semIn (.str key) (.kt (keys8.map .str)) S Q := fun Q q => in_flat (w := .kt (keys8.map .str)) (fun z q => nomatch q) rfl rfl rfl (by rw [memW_str, decide_eq_true (List.mem_of_getElem? hi)]; exact q)
  generalize keys8.map Val.str = ks at mem
  simp [W.o]
  refine mem _ ?_
  simp [optV, W.o]
  exact goes_ok (n := n + 6) (by have := so.dp; omega) (by have := so.sz; omega) so.nd so.bx he hw (in_walk.mpr hx) hen hi ht fun S1 x1 => fin2 S1 x1
end
end K81

set_option Elab.async false
set_option linter.all false
set_option maxRecDepth 100000
/-! a walker made; where the law says it comes to -/
namespace K81
open PySem PySem.Spec PyProof.Rows L2 FW
theorem nps : (("page" : Str) = "spot") = False := by decide +kernel
theorem npk : (("page" : Str) = "kept") = False := by decide +kernel
theorem nsk : (("spot" : Str) = "kept") = False := by decide +kernel
theorem npr : (("page" : Str) = "road") = False := by decide +kernel
theorem nsr : (("spot" : Str) = "road") = False := by decide +kernel
theorem nkr : (("kept" : Str) = "road") = False := by decide +kernel
theorem init_ok {n : Nat} {w : Addr} {fo : Fo} {S : Sto} {P : VP} {X : XP} (so : ShOk fo) (hw : S w = some (.ins "Walker" []))
    (h : ∀ S' kd rd, ExtB w S S' → WkAt S' w kd rd fo (walkF fo).head? [] (walkF fo).head?.toList → P .non S') : callF T (n + 13) i_Walker___init__ [.ref w, .tup fo.vs] S P X := by
  refine call_is (fn := f_Walker___init__) rfl rfl ?_
  simp [f_Walker___init__, b_Walker___init__, hw, put_same, put_put, fput, nps, -List.lookup_eq_none_iff]
  refine allo_ok fun kd S2 hkd x2 e2 => ⟨_, x2 _ _ put_same, by simp, allo_ok fun rd S4 hrd x4 e4 => ⟨_, x4 _ _ put_same, by simp [fput, npk, nsk], ?_⟩⟩
  have kw : kd ≠ w := fun z => by rw [z, put_same] at hkd; cases hkd
  have rw' : rd ≠ w := fun z => by rw [z, put_same] at hrd; cases hrd
  have kr : kd ≠ rd := fun z => by rw [← z, put_ne kw, e2] at hrd; cases hrd
  have ew : fput "road" (.ref rd) (fput "kept" (.ref kd) [("page", .tup fo.vs), ("spot", .non)]) = wfs fo (optV none) kd rd := by simp [fput, npk, nsk, npr, nsr, nkr, wfs, optV]
  rw [ew]
  have W : WkAt (S4.put w (.ins "Walker" (wfs fo (optV none) kd rd))) w kd rd fo none [] [] := ⟨put_same, by rw [put_ne kw]; exact x4 _ _ (by rw [put_ne kw]; exact e2), by rw [put_ne rw']; exact e4⟩
  have xw : ExtB w S (S4.put w (.ins "Walker" (wfs fo (optV none) kd rd))) := (((ExtB.put.trans (.of x2)).trans .put).trans (.of x4)).trans .put
  refine walk_ok (n := n + 8) (by have := so.dp; omega) (by have := so.sz; omega) so.nd fun S5 q x5 hq e5 => ?_
  have W5 := W.ext x5
  refine len_lst e5 ?_
  simp only [List.length_map]
  cases hws : walkF fo with
  | nil =>
    have := h S5 kd rd (xw.trans (.of x5))
    rw [hws] at this
    exact .inl ⟨by simp, this W5⟩
  | cons y ys =>
    rw [hws] at e5
    refine .inr ⟨by simp, _, W5.o, lkc, ix_lst (x := .str y) e5 (by rw [show (0 : Int) = ((0 : Nat) : Int) from rfl, atI_natE]; rfl) (come_ok W5 (by simp) fun S6 x6 W6 => ?_)⟩
    refine h S6 kd rd ?_ (by rw [hws]; exact W6)
    intro a o ha hs
    have hs5 := (xw.trans (.of x5)) a o ha hs
    refine x6 a o ha ?_ ?_ hs5
    · rintro rfl
      have h2 : (S.put w (.ins "Walker" [("page", .tup fo.vs), ("spot", .non)])) a = some o := by rw [put_ne ha]; exact hs
      rw [hkd] at h2; cases h2
    · rintro rfl
      have h2 : (S2.put w (.ins "Walker" (fput "kept" (.ref kd) [("page", .tup fo.vs), ("spot", .non)]))) a = some o := by rw [put_ne ha]; exact x2 _ _ (by rw [put_ne ha]; exact hs)
      rw [hrd] at h2; cases h2
theorem goal_none {n : Nat} {fo : Fo} {bp : Addr} {key : Str} {S : Sto} {P : VP} {X : XP} (h : P .non S) : callF T (n + 1) i__law_goal [.tup fo.vs, .non, .str key, .ref bp] S P X := by
  refine call_is (fn := f__law_goal) rfl rfl ?_
  simp [f__law_goal, b__law_goal]
  exact h
theorem goal_ok {n i : Nat} {fo : Fo} {D : List (Val × Val)} {bp : Addr} {x key : Str} {e : Ent} {o : Option Str} {S : Sto} {P : VP} {X : XP} (so : ShOk fo) (bk : BkOk fo D) (hb : S bp = some (.dic D)) (hx : x ∈ opens fo) (he : at_ (ents fo) x = some e) (hi : keys8[i]? = some key) (ht : (tabV fo e)[i]? = some (optV o))
    (h : ∀ S', Ext S S' → P (optV (goalO D x i o)) S') : callF T (n + 15) i__law_goal [.tup fo.vs, .str x, .str key, .ref bp] S P X := by
  refine call_is (fn := f__law_goal) rfl rfl ?_
  obtain ⟨k6, k7⟩ := keys_into hi
  obtain ⟨e', he', hem, hen, hw⟩ := open_why so.nd hx
  rw [he] at he'
  cases he'
  have go : ∀ {Q : VP}, (∀ S', Ext S S' → Q (optV o) S') → callF T (n + 14) i_goes [.tup fo.vs, .str x, .str key] S Q X := fun {Q} q => goes_ok (n := n + 6) (by have := so.dp; omega) (by have := so.sz; omega) so.nd so.bx he hw (in_walk.mpr hx) hen hi ht q
  simp [f__law_goal, b__law_goal]
  by_cases hk : key = "into"
  · have h6 := k6.mp hk
    refine .inr ⟨hk, in_dict hb (bk.suits x) ?_⟩
    cases hg : dget D (.str x) with
    | none =>
      refine .inl ⟨rfl, go fun S1 x1 => ?_⟩
      have := h S1 x1
      unfold goalO at this
      rw [if_pos h6, hg] at this
      exact this
    | some v =>
      obtain ⟨y, rfl, _⟩ := bk.get hg
      refine .inr ⟨rfl, ix_dic hb (bk.suits x) hg ?_⟩
      have := h S .refl
      unfold goalO at this
      rw [if_pos h6, hg] at this
      exact this
  · refine .inl ⟨hk, go fun S1 x1 => ?_⟩
    have := h S1 x1
    unfold goalO at this
    rw [if_neg (fun z => hk (k6.mpr z))] at this
    exact this
theorem press_none {n : Nat} {S : Sto} {w kd rd : Addr} {fo : Fo} {D : List (Val × Val)} {road : List Str} {key : Str} {P : VP} {X : XP} (W : WkAt S w kd rd fo none D road) (hk : key ∈ keys8) (h : P .non S) : callF T (n + 1) i_Walker_press [.ref w, .str key] S P X := by
  refine call_is (fn := f_Walker_press) rfl rfl ?_
  have mem : ∀ (Q : Bool → Prop), Q true → semIn (.str key) (.kt (keys8.map .str)) S Q := fun Q q => in_flat (w := .kt (keys8.map .str)) (fun z q => nomatch q) rfl rfl rfl (by rw [memW_str, decide_eq_true hk]; exact q)
  simp [f_Walker_press, b_Walker_press, W.o, optV, -List.lookup_eq_none_iff]
  refine mem _ ?_
  simp
  exact h
def keys10 : List Str := ["on", "back", "up", "down", "left", "right", "into", "out", "into", "out"]
theorem key_pick {v : Val} (h : v ∈ keys10.map Val.str) : ∃ (i : Nat) (key : Str), v = .str key ∧ keys8[i]? = some key := by
  obtain ⟨key, hk, rfl⟩ := List.mem_map.mp h
  have : ∀ k ∈ keys10, k ∈ keys8 := by decide +kernel
  obtain ⟨i, hi, e⟩ := List.getElem_of_mem (this key hk)
  exact ⟨i, key, rfl, by rw [List.getElem?_eq_getElem hi, e]⟩
end K81

set_option Elab.async false
set_option linter.all false
set_option maxRecDepth 100000
/-! the law -/
namespace K81
open PySem PySem.Spec PyProof.Rows L2 FW
theorem sh_ok {rs : List Rw} (ok : ROk rs) : ShOk (sheetOf rs) := ⟨sheet_deep ok, sheet_size ok, by
  have := congrArg (List.map lname) (rfl : FW.linesOf [] rs = FW.linesOf [] rs)
  have h := ((sheet_rep ok.wf).ents [] 0).names
  show ((ents (sheetOf rs)).map Ent.n).Nodup
  rw [show (ents (sheetOf rs)).map Ent.n = (FW.linesOf [] rs).map lname from h, lines_names]
  exact ok.nd, (hangs_box rs 0).box [] [] 0⟩
theorem open_sok {rs : List Rw} (ok : ROk rs) {x : Str} (hx : x ∈ opens (sheetOf rs)) : SOk x := by
  rw [opened_eq ok] at hx
  obtain ⟨l, hl, rfl⟩ := List.mem_map.mp hx
  have : lname l ∈ (FW.linesOf [] rs).map lname := List.mem_map.mpr ⟨l, (List.mem_filter.mp hl).1, rfl⟩
  rw [lines_names] at this
  obtain ⟨r, hr, e⟩ := List.mem_map.mp this
  rw [← e]
  exact (ok.nm r hr).s
theorem strs_pvs {ys : List Str} (h : ∀ y ∈ ys, SOk y) : Pvs (ys.map Val.str) 63 := .of fun v hv => by
  obtain ⟨y, hy, rfl⟩ := List.mem_map.mp hv
  exact .str (h y hy)
theorem goalO_open {fo : Fo} {D : List (Val × Val)} {x : Str} {i : Nat} {o : Option Str} (bk : BkOk fo D) (ho : ∀ y, o = some y → y ∈ opens fo) : ∀ y, goalO D x i o = some y → y ∈ opens fo := by
  intro y hy
  unfold goalO at hy
  split at hy
  · split at hy
    · rename_i z hz
      cases hy
      obtain ⟨z', e, hz', _⟩ := bk.get hz
      cases e
      exact hz'
    · exact ho y hy
  · exact ho y hy
theorem bookO_ok {fo : Fo} {D : List (Val × Val)} {e : Ent} {i : Nat} {o : Option Str} (bk : BkOk fo D) (hem : e ∈ ents fo) (hx : e.n ∈ opens fo) (ho : i = 7 → o = e.anc.getLast?) : BkOk fo (bookO D e.n i (goalO D e.n i o)) := by
  unfold bookO
  split
  · rename_i h7
    have : goalO D e.n i o = o := by unfold goalO; rw [if_neg (by omega)]
    rw [this]
    cases hoo : o with
    | none => exact bk
    | some y =>
      have h := ho h7
      rw [hoo] at h
      exact bk.put hem hx h.symm
  · exact bk
theorem bookO_len {D : List (Val × Val)} {x : Str} {i : Nat} {g : Option Str} : (bookO D x i g).length ≤ D.length + 1 := by
  unfold bookO
  split
  · cases g with
    | none => simp
    | some y => exact dput_len
  · omega
theorem roadO_len {road : List Str} {x : Str} {g : Option Str} : (roadO road x g).length ≤ road.length + 1 := by
  unfold roadO
  cases g with
  | none => simp
  | some y => show (if x = y then road else road ++ [y]).length ≤ _; split <;> simp
theorem roadO_mem {road : List Str} {x : Str} {g : Option Str} {Q : Str → Prop} (h : ∀ y ∈ road, Q y) (hg : ∀ y, g = some y → Q y) : ∀ y ∈ roadO road x g, Q y := by
  unfold roadO
  cases g with
  | none => exact h
  | some y =>
    show ∀ z ∈ (if x = y then road else road ++ [y]), Q z
    split
    · exact h
    · intro z hz
      rcases List.mem_append.mp hz with hz | hz
      · exact h z hz
      · rw [List.mem_singleton.mp hz]; exact hg y rfl
theorem law_gen {ns : List Int} {S : Sto} {P : VP} {X : XP} (hn : ns.length ≤ 63) (h : ∀ S', P (.bl true) S') : callF T 18 i_law [.scr (ns.map .int)] S P X := by
  refine call_is (fn := f_law) rfl rfl ?_
  simp [f_law, b_law, -List.lookup_eq_none_iff]
  have ok := rowsOf_ok ns
  have so := sh_ok ok
  have hung : ∀ {S : Sto} {Q : VP}, (∀ S', Ext S S' → Q (.tup (sheetOf (rowsOf ns)).vs) S') → callF T 17 i__law_rows [.scr (ns.map .int)] S (fun v S1 => callF T 17 i__law_hung [v] S1 Q X) X := fun {S Q} q =>
    rows_ok (n := 15) fun S1 v x1 hv => hung_ok (n := 16) hv ok fun S2 x2 => q S2 (x1.trans x2)
  refine hung fun S1 x1 => ?_
  refine rows_ok (n := 15) fun S2 v x2 hv => first_ok (n := 16) hv ok fun S3 x3 => ?_
  generalize hfo : sheetOf (rowsOf ns) = fo at *
  have pvf : Pv (.tup fo.vs) 64 := by rw [← hfo]; exact ((sheet_fo ok).pv (by have := sheet_deep ok; omega)).mono (by decide)
  have osok : ∀ x ∈ opens fo, SOk x := fun x hx => by rw [← hfo] at hx; exact open_sok ok hx
  intro w hw
  refine init_ok (n := 4) so put_same fun S4 kd rd x4 W4 => ?_
  simp [-List.lookup_eq_none_iff]
  refine allo_ok fun bp S5 hbp x5 e5 => ?_
  have W5 := W4.ext x5
  simp only [ev_lc, evIt_seq]
  simp [-List.lookup_eq_none_iff]
  refine allo_ok fun q0 S6 hq0 x6 e6 => semSeq_ref e6 ?_
  refine lcLoop_pure (fun v => if v = .non then none else some v) e6 _ _ (by simp) ?_ ?_
  · intro v hv K hK
    have hv : v = optV (walkF fo).head? := List.mem_singleton.mp hv
    subst hv
    simp [lcTurn, lcTg]
    cases hh : (walkF fo).head? with
    | none =>
      rw [hh] at hK
      simp [optV] at hK ⊢
      exact hK
    | some y =>
      rw [hh] at hK
      simp [optV] at hK ⊢
      exact hK
  refine allo_ok fun rp S7 hrp x7 e7 => ?_
  have er : ([] : List Val) ++ List.filterMap (fun v => if v = .non then none else some v) [optV (walkF fo).head?] = (walkF fo).head?.toList.map .str := by
    cases (walkF fo).head? with
    | none => simp [optV]
    | some y => simp [optV]
  rw [er] at e7
  have W7 := (W5.ext x6).ext x7
  have e57 : S7 bp = some (.dic []) := x7 _ _ (x6 _ _ e5)
  have n1 : bp ≠ w ∧ bp ≠ kd ∧ bp ≠ rd := ⟨fun z => (by rw [z, W4.o] at hbp; cases hbp), fun z => (by rw [z, W4.k] at hbp; cases hbp), fun z => (by rw [z, W4.r] at hbp; cases hbp)⟩
  have n2 : rp ≠ w ∧ rp ≠ kd ∧ rp ≠ rd ∧ rp ≠ bp := by
    have W6 := W5.ext x6
    exact ⟨fun z => (by rw [z, W6.o] at hrp; cases hrp), fun z => (by rw [z, W6.k] at hrp; cases hrp), fun z => (by rw [z, W6.r] at hrp; cases hrp), fun z => (by rw [z, x6 _ _ e5] at hrp; cases hrp)⟩
  have hd0 : ∀ x, (walkF fo).head? = some x → x ∈ opens fo := fun x hx => in_walk.mp (List.mem_of_mem_head? hx)
  refine ⟨⟨by split <;> omega, by split <;> omega⟩, ?_⟩
  have hm40 : (if 3 + (ns.length : Int) < 40 then 3 + (ns.length : Int) else 40).toNat ≤ 40 := by split <;> omega
  generalize (if 3 + (ns.length : Int) < 40 then 3 + (ns.length : Int) else 40).toNat = m at hm40
  have hmn : (rngL 0 m).length = m := rngL_len
  have pvo : ∀ spot : Option Str, (∀ x, spot = some x → x ∈ opens fo) → Pv (optV spot) 64 := fun spot g => .optS fun x hx => osok x (g x hx)
  refine forL_inv (rngL 0 m) (fun i ρ S8 => ∃ (spot : Option Str) (D : List (Val × Val)) (road : List Str) (y6 y7 y8 y9 : Option Val), ρ = [some (.scr (ns.map .int)), some (.tup fo.vs), some (optV spot), some (.ref w), some (.ref bp), some (.ref rp), y6, y7, y8, y9, none] ∧
      WkAt S8 w kd rd fo spot D road ∧ S8 bp = some (.dic D) ∧ S8 rp = some (.lst (road.map .str)) ∧ BkOk fo D ∧ (∀ x, spot = some x → x ∈ opens fo) ∧ (∀ x ∈ road, x ∈ opens fo) ∧ D.length ≤ i ∧ road.length ≤ 1 + i)
    ⟨(walkF fo).head?, [], (walkF fo).head?.toList, _, _, _, _, rfl, W7, e57, e7, (fun p h => nomatch h), hd0, (fun x hx => hd0 x (by simpa using hx)), Nat.zero_le _, by cases (walkF fo).head? <;> simp⟩ (fun _ _ _ _ => trivial) ?_ ?_
  · rintro i v ρ S8 K hv ⟨spot, D, road, y6, y7, y8, y9, rfl, W, eb, er, bk, hs, hr, hD, hR⟩ hK
    have hi : i < m := by
      have := (List.getElem?_eq_some_iff.mp hv).1
      rwa [hmn] at this
    rw [rngL_at hi] at hv
    cases hv
    have hrp : Pvs (road.map Val.str) 63 := strs_pvs fun y hy => osok y (hr y hy)
    simp [-List.lookup_eq_none_iff]
    refine ⟨_, W.o, lkt, stand_ok W (FW.eq_self (pvo spot hs) (.inl ⟨rfl, _, W.o, lkl, told_ok W fun S9 q9 x9 hq9 e9 => ?_⟩))⟩
    refine eq_lst_self e9 (x9 _ _ er) hrp (.inl ⟨rfl, ?_⟩)
    have W9 := W.ext x9
    refine ⟨_, W9.o, lkh, sheet_ok W9 (FW.eq_self pvf (.inl ⟨rfl, ?_⟩))⟩
    refine allo_ok fun kl SA hkl xA eA => fd_ok (by omega) fun p SB hp xB fB => ?_
    have bb := Fd.b (f := fd0 ns (i : Int)) (m := 10) (by decide)
    refine nx_ok fB (by decide) (by decide) fun SC xC fC => ?_
    have klp : kl ≠ p := fun z => by rw [z, hp] at eA; cases eA
    have x8C : Ext S8 SC := ((ExtB.of ((x9.trans xA).trans xB)).trans xC).ext ((x9.trans xA).none hp)
    refine ix_any (xC _ _ klp (xB _ _ eA)) bb.1 (by simpa using bb.2) fun v hv => ?_
    obtain ⟨i', key, rfl, hi'⟩ := key_pick (v := v) (List.mem_of_getElem? hv)
    have WC := W.ext x8C
    have ebC := x8C _ _ eb
    have erC := x8C _ _ er
    cases spot with
    | none =>
      refine goal_none (n := 16) (.inl ⟨rfl, _, WC.o, lkp, press_none (n := 16) WC (List.mem_of_getElem? hi') (FW.eq_self .non (.inl ⟨rfl, _, WC.o, lkl, told_ok WC fun SD q xD hq eD => ?_⟩))⟩)
      refine mt_app eD (do_app eD (by simp; omega) (hK _ _ ⟨none, D, road, _, _, _, _, rfl, ?_, ?_, ?_, bk, hs, hr, by omega, by omega⟩))
      · exact WC.ext (putNew xD hq)
      · exact (putNew xD hq) _ _ ebC
      · exact (putNew xD hq) _ _ erC
    | some x =>
      have hx := hs x rfl
      obtain ⟨e, he, hem, hen, hw9⟩ := open_why so.nd hx
      have hi8 : i' < 8 := (List.getElem?_eq_some_iff.mp hi').1
      obtain ⟨o, ht, ho, ho7⟩ := tab_ok so.nd hem (by rw [hen]; exact hx) hi8
      refine goal_ok (n := 2) so bk ebC hx he hi' ht fun SD xD => ?_
      have WD := WC.ext xD
      have ebD := xD _ _ ebC
      have erD := xD _ _ erC
      have gop := goalO_open (x := x) (i := i') bk ho
      have bk' := bookO_ok (i := i') bk hem (by rw [hen]; exact hx) ho7
      rw [hen] at bk'
      have hpr : ∀ {SF : Sto} {Q : VP}, WkAt SF w kd rd fo (some x) D road → (∀ S', Ext3 w kd rd SF S' → WkAt S' w kd rd fo (some ((goalO D x i' o).getD x)) (bookO D x i' (goalO D x i' o)) (roadO road x (goalO D x i' o)) → Q (.str ((goalO D x i' o).getD x)) S') → callF T 17 i_Walker_press [.ref w, .str key] SF Q X := fun {SF Q} WF q => press_ok (n := 2) so bk WF hx he hi' ht (by omega) (by omega) q
      generalize goalO D x i' o = g at gop bk' hpr ⊢
      have hgx : g.getD x ∈ opens fo := by
        cases g with
        | none => exact hx
        | some y => exact gop y rfl
      have fin : ∀ {SF : Sto} {v3 : Val}, WkAt SF w kd rd fo (some x) D road → SF bp = some (.dic (bookO D x i' g)) → SF rp = some (.lst ((roadO road x g).map .str)) →
          ∃ x_1, SF w = some (.ins "Walker" x_1) ∧ List.lookup ("press" : Str) x_1 = none ∧ callF T 17 i_Walker_press [.ref w, .str key] SF (fun v_4 S1 => semEq v_4 (.str (g.getD x)) S1 fun b => (b = true ∧ ∃ x_2, S1 w = some (.ins "Walker" x_2) ∧ List.lookup ("told" : Str) x_2 = none ∧ callF T 17 i_Walker_told [.ref w] S1 (fun v_5 S1 => ∃ T, mtTy Mt.append v_5 S1 = some T ∧ semMt Mt.append T v_5 [.str "a"] S1 fun _ S1 =>
            K [some (.scr (ns.map .int)), some (.tup fo.vs), some (.str (g.getD x)), some (.ref w), some (.ref bp), some (.ref rp), some (.int (i : Nat)), some (.ref kl), some (.str key), some v3, none] S1) X) ∨ b = false ∧ P (.bl false) S1) X := by
        intro SF v3 WF ebF erF
        refine ⟨_, WF.o, lkp, hpr WF fun SG xG WG => ?_⟩
        refine FW.eq_self (.str (osok _ hgx)) (.inl ⟨rfl, _, WG.o, lkl, told_ok WG fun SH q xH hq eH => ?_⟩)
        have ebG := xG _ _ n1.1 n1.2.1 n1.2.2 ebF
        have erG := xG _ _ n2.1 n2.2.1 n2.2.2.1 erF
        have l1 := bookO_len (D := D) (x := x) (i := i') (g := g)
        have l2 := roadO_len (road := road) (x := x) (g := g)
        refine mt_app eH (do_app eH (by simp; omega) (hK _ _ ⟨some (g.getD x), bookO D x i' g, roadO road x g, _, _, _, _, rfl, WG.ext (putNew xH hq), (putNew xH hq) _ _ ebG, (putNew xH hq) _ _ erG, bk', fun z hz => (by cases hz; exact hgx), roadO_mem hr gop, by omega, by omega⟩))
      cases g with
      | none => exact .inl ⟨rfl, fin WD (by simpa [bookO] using ebD) (by simpa [roadO] using erD)⟩
      | some y =>
        obtain ⟨_, k7⟩ := keys_into hi'
        have road_step : ∀ {SF : Sto} {Q : Sto → Prop}, WkAt SF w kd rd fo (some x) D road → SF bp = some (.dic (bookO D x i' (some y))) → SF rp = some (.lst (road.map .str)) → (∀ S', WkAt S' w kd rd fo (some x) D road → S' bp = some (.dic (bookO D x i' (some y))) → S' rp = some (.lst ((roadO road x (some y)).map .str)) → Q S') →
            (semEq (optV (some y)) (optV (some x)) SF fun b => (b = true ∧ Q SF) ∨ b = false ∧ ∃ T, mtTy Mt.append (.ref rp) SF = some T ∧ semMt Mt.append T (.ref rp) [optV (some y)] SF fun _ S1 => Q S1) := by
          intro SF Q WF ebF erF q
          simp [optV]
          by_cases e : y = x
          · subst e
            refine .inl ⟨rfl, q SF WF ebF ?_⟩
            simp [roadO, erF]
          · refine .inr ⟨e, mt_app erF (do_app erF (by simp; omega) (q _ ⟨?_, ?_, ?_⟩ ?_ ?_))⟩
            · rw [put_ne (Ne.symm n2.1)]; exact WF.o
            · rw [put_ne (Ne.symm n2.2.1)]; exact WF.k
            · rw [put_ne (Ne.symm n2.2.2.1)]; exact WF.r
            · rw [put_ne (Ne.symm n2.2.2.2)]; exact ebF
            · rw [put_same]
              have : ¬ x = y := fun z => e z.symm
              simp [roadO, this]
        refine .inr ⟨by simp [optV], ?_⟩
        by_cases hk : key = "out"
        · have h7 := k7.mp hk
          have ebk : bookO D x i' (some y) = dput D (.str y) (.str x) := by unfold bookO; rw [if_pos h7]
          subst hk
          refine FW.eq_self (.str (by decide +kernel)) (.inr ⟨rfl, ?_⟩)
          refine set_dic ebD (bk.suits y) (by omega) ?_
          have WE : WkAt (SD.put bp (.dic (dput D (.str y) (.str x)))) w kd rd fo (some x) D road := ⟨by rw [put_ne (Ne.symm n1.1)]; exact WD.o, by rw [put_ne (Ne.symm n1.2.1)]; exact WD.k, by rw [put_ne (Ne.symm n1.2.2)]; exact WD.r⟩
          exact road_step WE (by rw [put_same, ebk]) (by rw [put_ne n2.2.2.2]; exact erD) fun S' k1 k2 k3 => fin k1 k2 k3
        · have h7 : ¬ i' = 7 := fun z => hk (k7.mpr z)
          have ebk : bookO D x i' (some y) = D := by unfold bookO; rw [if_neg h7]
          have hne : ∀ {Q : Bool → Prop} {S : Sto}, Q false → semEq (.str key) (.str "out") S Q := fun {Q S} q => by
            simp [hk]
            exact q
          refine hne (.inl ⟨rfl, ?_⟩)
          exact road_step WD (by rw [ebk]; exact ebD) erD fun S' k1 k2 k3 => fin k1 k2 k3
  · rintro ρ S8 ⟨spot, D, road, y6, y7, y8, y9, rfl, W, eb, er, bk, hs, hr, hD, hR⟩
    have hrp : Pvs (road.map Val.str) 63 := strs_pvs fun y hy => osok y (hr y hy)
    simp [-List.lookup_eq_none_iff]
    refine ⟨_, W.o, lkt, stand_ok W (FW.eq_self (pvo spot hs) (.inr ⟨rfl, _, W.o, lkl, told_ok W fun S9 q9 x9 hq9 e9 => ?_⟩))⟩
    refine eq_lst_self e9 (x9 _ _ er) hrp (.inr ⟨rfl, ?_⟩)
    refine hung fun SA xA => FW.eq_self pvf ?_
    simp
    exact h SA
theorem law_ok (ns : List Int) (hn : ns.length ≤ 63) : callF T 18 i_law [.scr (ns.map .int)] (fun _ => none) (fun v _ => v = .bl true) XN := law_gen hn fun _ => rfl
end K81

open PySem PySem.W PySem.Calls PyProof.Rows in
theorem PySem.Challenge.cw_focuswalk_k81_keys_pressed_holds : PySem.Challenge.rw_focuswalk_k81_keys_pressed.Holds := by
  exact K81.finish ⟨rfl, by decide, by decide⟩ fun ns hn => K81.law_ok ns hn
