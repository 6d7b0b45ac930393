import PyProof.Rows.All
import Wide.All
import OpenK.AllK
import Wide.FinOn
import HandS.ForMost
import HandS.Exc
import HandS.WordsExc
import HandS.CallSlots
import HandS.Wide
import HandS.TupAny
import HandS.Strs
import KE.KDictList
import HandS.Rev
import HandS.IsInst
import HandS.Replace
import HandS.Style
import HandS.More
import HandS.Flow
import KE.KStateDown
import HandS.HeadEnd
import HandS.HeadHook2
import HandS.HeadHook3
import HandS.HeadHook4
import HandS.Head0
import HandS.Head1
import HandS.Head2
import HandS.EndBits
import PySem.Challenge.RW_pairedthrows_k17_programs_let_by
set_option Elab.async false
set_option linter.all false
set_option maxRecDepth 100000
/-! DLa: data trees D, a store of objects, and how both lie in the layer's heap -/
namespace DL
open PySem PySem.Spec PyProof.Rows L2

inductive D where
  | non | bl (b : Bool) | int (i : Int) | str (x : Str) | tup (xs : List D) | fl (xs : List D) | ref (a : Addr)
inductive Ob where
  | lst (xs : List D)
  | dk (kvs : List (Key × D))
  | ins (c : Nat) (fs : List (Str × D))
  | fz (o : Ob)
abbrev Sto := Addr → Option Ob
def su (S : Sto) (a : Addr) (o : Ob) : Sto := fun b => if b = a then some o else S b
theorem su_same {S : Sto} {a : Addr} {o : Ob} : su S a o a = some o := by unfold su; rw [if_pos rfl]
theorem su_ne {S : Sto} {a b : Addr} {o : Ob} (h : b ≠ a) : su S a o b = S b := by unfold su; rw [if_neg h]
theorem su_su {S : Sto} {a : Addr} {o u : Ob} : su (su S a o) a u = su S a u := by
  funext b; unfold su; split <;> rfl
theorem sne {S : Sto} {a b : Addr} {o : Ob} (h : S a = some o) (h' : S b = none) : a ≠ b := by
  intro e; subst e; rw [h] at h'; cases h'
abbrev En := List (Option D)
abbrev QD := D → Sto → Prop
/-- an exception: the class by number, its fields -/
structure Ex where
  c : Nat
  fs : List (Str × D)
abbrev XD := Ex → Sto → Prop

/-! ### paired lists -/
section
variable {α β : Type} {F : α → β → Prop}
theorem P.len : ∀ {xs : List α} {ys : List β}, Paired F xs ys → xs.length = ys.length
  | _, _, .nil => rfl
  | _, _, .cons _ t => by rw [List.length_cons, List.length_cons, P.len t]
theorem P.get : ∀ {xs : List α} {ys : List β} {i : Nat} {x : α}, Paired F xs ys → xs[i]? = some x → ∃ y, ys[i]? = some y ∧ F x y
  | _, _, _, _, .nil, e => by simp at e
  | _, _, 0, _, .cons r _, e => by simp at e; subst e; exact ⟨_, rfl, r⟩
  | _, _, i + 1, x, .cons _ t, e => by
    obtain ⟨u, h1, h2⟩ := P.get (i := i) (x := x) t (by simpa using e)
    exact ⟨u, by simpa using h1, h2⟩
theorem P.got : ∀ {xs : List α} {ys : List β} {i : Nat} {y : β}, Paired F xs ys → ys[i]? = some y → ∃ x, xs[i]? = some x ∧ F x y
  | _, _, _, _, .nil, e => by simp at e
  | _, _, 0, _, .cons r _, e => by simp at e; subst e; exact ⟨_, rfl, r⟩
  | _, _, i + 1, x, .cons _ t, e => by
    obtain ⟨u, h1, h2⟩ := P.got (i := i) (y := x) t (by simpa using e)
    exact ⟨u, by simpa using h1, h2⟩
theorem P.app : ∀ {xs xs' : List α} {ys ys' : List β}, Paired F xs ys → Paired F xs' ys' → Paired F (xs ++ xs') (ys ++ ys')
  | _, _, _, _, .nil, s => s
  | _, _, _, _, .cons r t, s => .cons r (P.app t s)
theorem P.take : ∀ {xs : List α} {ys : List β} (n : Nat), Paired F xs ys → Paired F (xs.take n) (ys.take n)
  | _, _, 0, _ => .nil
  | _, _, _ + 1, .nil => .nil
  | _, _, n + 1, .cons r t => .cons r (P.take n t)
theorem P.drop : ∀ {xs : List α} {ys : List β} (n : Nat), Paired F xs ys → Paired F (xs.drop n) (ys.drop n)
  | _, _, 0, r => r
  | _, _, _ + 1, .nil => .nil
  | _, _, n + 1, .cons _ t => P.drop n t
theorem P.set {x : α} {y : β} (r : F x y) : ∀ {xs : List α} {ys : List β} (i : Nat), Paired F xs ys → Paired F (xs.set i x) (ys.set i y)
  | _, _, _, .nil => .nil
  | _, _, 0, .cons _ t => .cons r t
  | _, _, i + 1, .cons q t => .cons q (P.set r i t)
theorem P.erase : ∀ {xs : List α} {ys : List β} (i : Nat), Paired F xs ys → Paired F (xs.eraseIdx i) (ys.eraseIdx i)
  | _, _, _, .nil => .nil
  | _, _, 0, .cons _ t => t
  | _, _, i + 1, .cons q t => .cons q (P.erase i t)
theorem P.rev : ∀ {xs : List α} {ys : List β}, Paired F xs ys → Paired F xs.reverse ys.reverse
  | _, _, .nil => .nil
  | _, _, .cons r t => by
    rw [List.reverse_cons, List.reverse_cons]
    exact P.app (P.rev t) (.cons r .nil)
theorem P.dropLast {xs : List α} {ys : List β} (h : Paired F xs ys) : Paired F xs.dropLast ys.dropLast := by
  rw [List.dropLast_eq_take, List.dropLast_eq_take, ← P.len h]
  exact P.take _ h
theorem P.mp {G : α → β → Prop} : ∀ {xs : List α} {ys : List β}, Paired F xs ys → (∀ a b, F a b → G a b) → Paired G xs ys
  | _, _, .nil, _ => .nil
  | _, _, .cons r t, f => .cons (f _ _ r) (P.mp t f)
theorem P.flat : ∀ {k : Nat} {xs : List α} {ys : List β}, Paired F xs ys → Paired F (List.replicate k xs).flatten (List.replicate k ys).flatten
  | 0, _, _, _ => .nil
  | k + 1, _, _, h => by
    rw [List.replicate_succ, List.replicate_succ, List.flatten_cons, List.flatten_cons]
    exact P.app h (P.flat h)
end

/-! ### how data lies in the heap -/
/-- a list that never changes -/
def FzL (K : PySem.W.Frag) (H : Hp) (a : Addr) (xs : List V) : Prop :=
  (∃ o, H a = some (.frz o (.lst xs))) ∨
    ∃ (o : Obj) (its : Array Value) (n : Nat), K.lookup a = some o ∧ o.cls = .type "list" ∧ o.dict = none ∧ o.data = .seq its n ∧ its.size ≤ sizeLine ∧ Vals xs its.toList
theorem FzL.sq {K : PySem.W.Frag} {H : Hp} {a : Addr} {xs : List V} (h : FzL K H a xs) : SqL K H a xs := by
  rcases h with h | h
  · exact .inl (.inr h)
  · exact .inr h
section
variable (K : PySem.W.Frag) (H : Hp)
mutual
def RV : D → V → Prop
  | .non, v => v = .non
  | .bl b, v => v = .bl b
  | .int i, v => v = .int i
  | .str x, v => v = .str x
  | .tup ds, v => ∃ a vs, v = .ref a ∧ SqT K H a vs ∧ RVs ds vs
  | .fl ds, v => ∃ a vs, v = .ref a ∧ FzL K H a vs ∧ RVs ds vs
  | .ref a, v => v = .ref a
def RVs : List D → List V → Prop
  | [], vs => vs = []
  | d :: ds, vs => ∃ v r, vs = v :: r ∧ RV d v ∧ RVs ds r
end
abbrev RP : List D → List V → Prop := Paired (RV K H)
end
/-- tuples stay -/
def TK (K : PySem.W.Frag) (H H' : Hp) : Prop := (∀ a xs, SqT K H a xs → SqT K H' a xs) ∧ ∀ a xs, FzL K H a xs → FzL K H' a xs
section
variable {K : PySem.W.Frag} {H H' H1 H2 : Hp}
theorem RVs.p : ∀ {ds : List D} {vs : List V}, RVs K H ds vs → RP K H ds vs
  | [], vs, h => by
    have e : vs = [] := by simpa [RVs] using h
    subst e
    exact .nil
  | d :: ds, vs, h => by
    simp only [RVs] at h
    obtain ⟨v, r, rfl, h1, h2⟩ := h
    exact .cons h1 (RVs.p h2)
theorem RVs.of : ∀ {ds : List D} {vs : List V}, RP K H ds vs → RVs K H ds vs
  | _, _, .nil => by simp [RVs]
  | _, _, .cons r t => by
    simp only [RVs]
    exact ⟨_, _, rfl, r, RVs.of t⟩
theorem RV.tup {ds : List D} {v : V} (h : RV K H (.tup ds) v) : ∃ a vs, v = .ref a ∧ SqT K H a vs ∧ RP K H ds vs := by
  simp only [RV] at h
  obtain ⟨a, vs, e, q, r⟩ := h
  exact ⟨a, vs, e, q, r.p⟩
theorem RV.ofTup {ds : List D} {a : Addr} {vs : List V} (q : SqT K H a vs) (r : RP K H ds vs) : RV K H (.tup ds) (.ref a) := by
  simp only [RV]
  exact ⟨a, vs, rfl, q, RVs.of r⟩
theorem RV.flE {ds : List D} {v : V} (h : RV K H (.fl ds) v) : ∃ a vs, v = .ref a ∧ FzL K H a vs ∧ RP K H ds vs := by
  simp only [RV] at h
  obtain ⟨a, vs, e, q, r⟩ := h
  exact ⟨a, vs, e, q, r.p⟩
theorem RV.non' : RV K H .non .non := by simp [RV]
theorem RV.bl' {b : Bool} : RV K H (.bl b) (.bl b) := by simp [RV]
theorem RV.int' {i : Int} : RV K H (.int i) (.int i) := by simp [RV]
theorem RV.str' {x : Str} : RV K H (.str x) (.str x) := by simp [RV]
theorem RV.ref' {a : Addr} : RV K H (.ref a) (.ref a) := by simp [RV]
theorem RV.nonE {v : V} (h : RV K H .non v) : v = .non := by simpa [RV] using h
theorem RV.blE {b : Bool} {v : V} (h : RV K H (.bl b) v) : v = .bl b := by simpa [RV] using h
theorem RV.intE {i : Int} {v : V} (h : RV K H (.int i) v) : v = .int i := by simpa [RV] using h
theorem RV.strE {x : Str} {v : V} (h : RV K H (.str x) v) : v = .str x := by simpa [RV] using h
theorem RV.refE {a : Addr} {v : V} (h : RV K H (.ref a) v) : v = .ref a := by simpa [RV] using h
theorem TK.refl : TK K H H := ⟨fun _ _ h => h, fun _ _ h => h⟩
theorem TK.trans (a : TK K H H1) (b : TK K H1 H2) : TK K H H2 := ⟨fun c xs h => b.1 c xs (a.1 c xs h), fun c xs h => b.2 c xs (a.2 c xs h)⟩
mutual
theorem RV.mono (t : TK K H H') : ∀ {d : D} {v : V}, RV K H d v → RV K H' d v
  | .non, _, h => by simpa [RV] using h
  | .bl _, _, h => by simpa [RV] using h
  | .int _, _, h => by simpa [RV] using h
  | .str _, _, h => by simpa [RV] using h
  | .ref _, _, h => by simpa [RV] using h
  | .tup ds, v, h => by
    simp only [RV] at h ⊢
    obtain ⟨a, vs, e, q, r⟩ := h
    exact ⟨a, vs, e, t.1 _ _ q, RVs.mono t r⟩
  | .fl ds, v, h => by
    simp only [RV] at h ⊢
    obtain ⟨a, vs, e, q, r⟩ := h
    exact ⟨a, vs, e, t.2 _ _ q, RVs.mono t r⟩
theorem RVs.mono (t : TK K H H') : ∀ {ds : List D} {vs : List V}, RVs K H ds vs → RVs K H' ds vs
  | [], _, h => by simpa [RVs] using h
  | d :: ds, _, h => by
    simp only [RVs] at h ⊢
    obtain ⟨v, r, e, h1, h2⟩ := h
    exact ⟨v, r, e, RV.mono t h1, RVs.mono t h2⟩
end
theorem RP.mono (t : TK K H H') {ds : List D} {vs : List V} (h : RP K H ds vs) : RP K H' ds vs := P.mp h fun _ _ => RV.mono t
end

/-! ### objects -/
section
variable (K : PySem.W.Frag) (H : Hp)
abbrev KP {κ : Type} : List (κ × D) → List (κ × V) → Prop := Paired fun p q => p.1 = q.1 ∧ RV K H p.2 q.2
def RO (cls : Nat → Addr) (a : Addr) : Ob → Prop
  | .lst ds => ∃ vs, H a = some (.lst vs) ∧ RP K H ds vs
  | .dk kvs => ∃ ws, H a = some (.dK ws) ∧ KP K H kvs ws
  | .ins c fs => ∃ dx gs, H a = some (.ins (cls c) dx gs) ∧ KP K H fs gs
  | .fz (.lst ds) => ∃ vs, Rd H a (.lst vs) ∧ RP K H ds vs
  | .fz (.dk kvs) => ∃ ws, Rd H a (.dK ws) ∧ KP K H kvs ws
  | .fz _ => False
def RS (cls : Nat → Addr) (S : Sto) : Prop := ∀ a o, S a = some o → RO K H cls a o
def RE (ρ : En) (σ : L2.St) : Prop := ρ.length = σ.length ∧ ∀ (i : Nat) (d : D), ρ[i]? = some (some d) → ∃ v, σ[i]? = some (some v) ∧ RV K H d v
end
section
variable {K : PySem.W.Frag} {H H' : Hp} {cls : Nat → Addr} {S : Sto} {a p : Addr} {ρ : En} {σ : L2.St}
theorem KP.mono {κ : Type} (t : TK K H H') {xs : List (κ × D)} {ys : List (κ × V)} (h : KP K H xs ys) : KP K H' xs ys := P.mp h fun _ _ ⟨e, r⟩ => ⟨e, r.mono t⟩
theorem RE.mono (t : TK K H H') (h : RE K H ρ σ) : RE K H' ρ σ := ⟨h.1, fun i d e => let ⟨v, e', r⟩ := h.2 i d e; ⟨v, e', r.mono t⟩⟩
/-- the object lies somewhere -/
theorem RO.there {o : Ob} (h : RO K H cls a o) : H a ≠ none := by
  have rd : ∀ u, Rd H a u → H a ≠ none := fun u q => by
    rcases q with q | ⟨o, q⟩
    · rw [q]; simp
    · rw [q]; simp
  cases o with
  | lst ds => obtain ⟨vs, e, _⟩ := h; rw [e]; simp
  | dk kvs => obtain ⟨vs, e, _⟩ := h; rw [e]; simp
  | ins c fs => obtain ⟨dx, gs, e, _⟩ := h; rw [e]; simp
  | fz o =>
    cases o with
    | lst ds => obtain ⟨vs, q, _⟩ := h; exact rd _ q
    | dk kvs => obtain ⟨vs, q, _⟩ := h; exact rd _ q
    | ins c fs => exact h.elim
    | fz o => exact h.elim
/-- an object keeps lying where its address is untouched -/
theorem RO.keep {o : Ob} (t : TK K H H') (e : H' a = H a) (h : RO K H cls a o) : RO K H' cls a o := by
  have rd : ∀ u, Rd H a u → Rd H' a u := fun u q => by
    rcases q with q | ⟨o, q⟩
    · exact .inl (e.trans q)
    · exact .inr ⟨o, e.trans q⟩
  cases o with
  | lst ds => obtain ⟨vs, q, r⟩ := h; exact ⟨vs, e.trans q, r.mono t⟩
  | dk kvs => obtain ⟨vs, q, r⟩ := h; exact ⟨vs, e.trans q, KP.mono t r⟩
  | ins c fs => obtain ⟨dx, gs, q, r⟩ := h; exact ⟨dx, gs, e.trans q, KP.mono t r⟩
  | fz o =>
    cases o with
    | lst ds => obtain ⟨vs, q, r⟩ := h; exact ⟨vs, rd _ q, r.mono t⟩
    | dk kvs => obtain ⟨vs, q, r⟩ := h; exact ⟨vs, rd _ q, KP.mono t r⟩
    | ins c fs => exact h.elim
    | fz o => exact h.elim
theorem tk_new {o : HO} (hp : H p = none) : TK K H (upd H p o) := by
  refine ⟨fun b xs h => ?_, fun b xs h => ?_⟩
  · rcases h with (h | ⟨ob, h⟩) | h
    · exact .inl (.inl (by rw [upd_ne (ne_of_none h hp)]; exact h))
    · exact .inl (.inr ⟨ob, by rw [upd_ne (ne_of_none h hp)]; exact h⟩)
    · exact .inr h
  · rcases h with ⟨ob, h⟩ | h
    · exact .inl ⟨ob, by rw [upd_ne (ne_of_none h hp)]; exact h⟩
    · exact .inr h
theorem RS.free (r : RS K H cls S) (hp : H p = none) : S p = none := by
  cases e : S p with
  | none => rfl
  | some o => exact absurd hp (r p o e).there
/-- a new thing that is not in the store (a tuple) -/
theorem RS.new {o : HO} (r : RS K H cls S) (hp : H p = none) : RS K (upd H p o) cls S := fun b ob e =>
  (r b ob e).keep (tk_new hp) (upd_ne (sne e (r.free hp)))
/-- what is written: a tracked thing that is no tuple and not locked -/
def Mu (o : HO) : Prop := (∀ xs, o ≠ .tup xs) ∧ ∀ ob u, o ≠ .frz ob u
theorem tk_mut {o o' : HO} (h : H a = some o) (m : Mu o) : TK K H (upd H a o') := by
  refine ⟨fun b xs q => ?_, fun b xs q => ?_⟩
  · rcases q with (q | ⟨ob, q⟩) | q
    · exact .inl (.inl (by rw [upd_ne (fun z => by rw [z, h] at q; exact m.1 _ (Option.some.inj q))]; exact q))
    · exact .inl (.inr ⟨ob, by rw [upd_ne (fun z => by rw [z, h] at q; exact m.2 _ _ (Option.some.inj q))]; exact q⟩)
    · exact .inr q
  · rcases q with ⟨ob, q⟩ | q
    · exact .inl ⟨ob, by rw [upd_ne (fun z => by rw [z, h] at q; exact m.2 _ _ (Option.some.inj q))]; exact q⟩
    · exact .inr q
theorem RS.put {o : Ob} {u u' : HO} (r : RS K H cls S) (h : H a = some u) (m : Mu u) (n : RO K (upd H a u') cls a o) : RS K (upd H a u') cls (su S a o) := fun b ob e => by
  by_cases hb : b = a
  · subst hb
    rw [su_same] at e
    cases e
    exact n
  · rw [su_ne hb] at e
    exact (r b ob e).keep (tk_mut h m) (upd_ne hb)
theorem RS.newS {o : Ob} {u : HO} (r : RS K H cls S) (hp : H p = none) (n : RO K (upd H p u) cls p o) : RS K (upd H p u) cls (su S p o) := fun b ob e => by
  by_cases hb : b = p
  · subst hb
    rw [su_same] at e
    cases e
    exact n
  · rw [su_ne hb] at e
    exact (r b ob e).keep (tk_new hp) (upd_ne hb)
theorem mu_lst {xs : List V} : Mu (.lst xs) := ⟨fun _ => HO.noConfusion, fun _ _ => HO.noConfusion⟩
theorem mu_dK {xs : List (Key × V)} : Mu (.dK xs) := ⟨fun _ => HO.noConfusion, fun _ _ => HO.noConfusion⟩
theorem mu_dT {xs : List (List Key × V)} : Mu (.dT xs) := ⟨fun _ => HO.noConfusion, fun _ _ => HO.noConfusion⟩
theorem mu_ins {C dx : Addr} {fs : List (Str × V)} : Mu (.ins C dx fs) := ⟨fun _ => HO.noConfusion, fun _ _ => HO.noConfusion⟩
end
end DL

set_option Elab.async false
set_option linter.all false
set_option maxRecDepth 100000
set_option maxHeartbeats 4000000
/-! DLs: len(set(x)), x a list or a tuple of any texts -/
namespace DLS
open PySem PySem.Spec PyProof.Rows L2

/-- how many unlike ones among the first i -/
def many (xs : List Str) : Nat → Nat
  | 0 => 0
  | i + 1 => if xs.getD i Str.empty ∈ xs.take i then many xs i else many xs i + 1
theorem many_le (xs : List Str) : ∀ i, many xs i ≤ i
  | 0 => Nat.le_refl _
  | i + 1 => by
    have := many_le xs i
    unfold many
    split <;> omega
theorem many_nodup {xs : List Str} (h : xs.Nodup) : ∀ i, i ≤ xs.length → many xs i = i
  | 0, _ => rfl
  | i + 1, hi => by
    have hlt : i < xs.length := hi
    have ih := many_nodup h i (by omega)
    have e : xs.getD i Str.empty = xs[i] := by rw [List.getD_eq_getElem?_getD, List.getElem?_eq_getElem hlt]; rfl
    have no : xs.getD i Str.empty ∉ xs.take i := by
      rw [e]
      intro hm
      obtain ⟨j, hj, ej⟩ := List.getElem_of_mem hm
      have hji : j < i := by rw [List.length_take] at hj; omega
      rw [List.getElem_take] at ej
      exact List.pairwise_iff_getElem.mp h j i (by omega) hlt hji ej
    unfold many
    rw [if_neg no, ih]
/-- what the set knows behind i texts -/
def seen (xs : List Str) (i : Nat) (k : Str) : Bool := (xs.take i).any (· == k)
theorem seen_iff {xs : List Str} {i : Nat} {k : Str} : seen xs i k = true ↔ k ∈ xs.take i := by
  unfold seen
  rw [List.any_eq_true]
  constructor
  · rintro ⟨x, hx, e⟩
    rw [← eq_of_beq e]; exact hx
  · intro h
    exact ⟨k, h, beq_self_eq_true k⟩
section
variable {prog : Program} {w : World} {A : Around} {R : Result → Shared → Prop} {I : Addr} {fp wr : List Addr} {G : Array GenState → Array GenState → Prop} {n : Nat} {P : Nat → Value → Prop} {St : Nat → Shared → Prop}
theorem adds (W : WalksS prog w A.in1 I fp wr G n P St) (S : Addr) (hSf : S ∉ fp) (xs : List Str) (hsz : xs.length = n) (hn1 : n + 1 < scanBound) (hval : ∀ i v, P i v → ∃ t, v = .str (xs.getD i Str.empty) t) :
    ∀ (k i : Nat) (s : Shared), n - i = k → i ≤ n → St i s → s.heap.SetOf (PySem.strKind prog w) S (seen xs i) (many xs i) →
      (∀ s', Moved (S :: wr) G s s' → s'.heap.SetOf (PySem.strKind prog w) S (seen xs n) (many xs n) → R (.ok (.ret .none)) s') → codeAny (model prog w) A (.builtin "set.update.loop" ⟨[.ref S, .ref I], []⟩) R s := by
  have hSw : S ∉ wr := fun h => hSf (W.sub _ h)
  have hsub : ∀ b ∈ wr, b ∈ S :: wr := fun b hb => List.mem_cons_of_mem _ hb
  intro k
  induction k with
  | zero =>
    intro i s hk hi hst hS hR
    obtain rfl : i = n := by omega
    refine codeAny_builtin PyProof.Rows.F.entry_set_update_loop ?_
    rw [Around.under_plainId PyProof.Rows.F.plain_set_update_loop _]
    show wpAny _ A.in1 (pyNext (.ref I) >>= _) _ _ s
    refine wpAny_bind (W.done s _ _ hst fun s' hm => ?_)
    refine wpAny_pure (hR s' (hm.mono hsub) ?_)
    obtain ⟨o, es, ep, t, ho, rest⟩ := hS
    exact ⟨o, es, ep, t, hm.heap S _ hSw ho, rest⟩
  | succ k ih =>
    intro i s hk hi hst hS hR
    have hlt : i < n := by omega
    refine codeAny_builtin PyProof.Rows.F.entry_set_update_loop ?_
    rw [Around.under_plainId PyProof.Rows.F.plain_set_update_loop _]
    show wpAny _ A.in1 (pyNext (.ref I) >>= _) _ _ s
    refine wpAny_bind (W.item i s _ _ hlt hst fun v s' hP hst' hm => ?_)
    obtain ⟨t, rfl⟩ := hval i v hP
    have hS' : s'.heap.SetOf (PySem.strKind prog w) S (seen xs i) (many xs i) := by
      obtain ⟨o, es, ep, tb, ho, rest⟩ := hS
      exact ⟨o, es, ep, tb, hm.heap S _ hSw ho, rest⟩
    show wpAny _ A.in1 (holding [Value.str (xs.getD i Str.empty) t] (setAdd S (.str (xs.getD i Str.empty) t)) >>= _) _ _ s'
    refine wpAny_bind (wpAny_holding ?_)
    unfold setAdd
    refine wpAny_holding (wpAny_bind ((PySem.strKind prog w).pyHash (k := xs.getD i Str.empty) (strKind_is _ _ _ _) ?_))
    have room := many_le xs i
    refine wpAny_setAddHashed_of (knd := PySem.strKind prog w) (s := { s' with toks := s'.toks + 1 }) (strKind_is _ _ _ _) rfl hS' (by omega) fun h' hsb hS2 => ?_
    have hx : xs.take (i + 1) = xs.take i ++ [xs.getD i Str.empty] := by
      have hl : i < xs.length := by omega
      rw [List.take_add_one, List.getElem?_eq_getElem hl, List.getD_eq_getElem?_getD, List.getElem?_eq_getElem hl]; rfl
    have hSi : h'.SetOf (PySem.strKind prog w) S (seen xs (i + 1)) (many xs (i + 1)) := by
      refine SetOf_congr hS2 (fun k' => ?_) ?_
      · show (seen xs i k' || decide (k' = xs.getD i Str.empty)) = seen xs (i + 1) k'
        unfold seen
        rw [hx, List.any_append, List.any_cons, List.any_nil, Bool.or_false]
        congr 1
        by_cases e : k' = xs.getD i Str.empty
        · rw [← e]; simp
        · rw [decide_eq_false e, beq_false_of_ne (Ne.symm e)]
      · show (if seen xs i (xs.getD i Str.empty) = true then many xs i else many xs i + 1) = many xs (i + 1)
        by_cases hm : xs.getD i Str.empty ∈ xs.take i
        · rw [if_pos (seen_iff.mpr hm), many, if_pos hm]
        · rw [if_neg (fun h => hm (seen_iff.mp h)), many, if_neg hm]
    refine wpAny_pure ⟨plainId_quiet PyProof.Rows.F.plain_set_update_loop _, ih (i + 1) _ (by omega) hlt (W.frame _ s' _ _ hst' (Nat.le_succ _) fun b hb o e => ?_) hSi fun s'' hm'' hS'' => ?_⟩
    · rw [hsb.2 b (fun h : b = S => hSf (by rw [← h]; exact hb))]; exact e
    · refine hR s'' (Moved.trans W.gtrans ((hm.mono hsub).then_heap (Nat.le_succ _) fun b o hb e => ?_) hm'') hS''
      rw [hsb.2 b (fun h : b = S => hb (by rw [h]; exact List.mem_cons_self))]; exact e
end
/-- a list or a tuple that is gone through -/
structure Src (prog : Program) (w : World) (T : String) (l : Addr) (items : Array Value) (OK : Heap → Prop) : Prop where
  obj : ∀ h, OK h → ∃ (od : Option Addr) (n : Nat) (sl : Array (Option Value)), h.get? l = some { cls := .type T, dict := od, data := .seq items n, slots := sl }
  push : ∀ h o, OK h → OK (h.push o)
  subS : isSubtype (.type T) (.type "set") = pure false
  subF : isSubtype (.type T) (.type "frozenset") = pure false
  ne : (Value.type T == Value.type "dict") = false
  iter : ∀ (A : Around) (s : Shared), OK s.heap → ∃ oI : Obj, oI.cls ≠ .none ∧ (∀ (E Q : Value → Shared → Prop), Q (.ref s.heap.objs.size) { s with heap := s.heap.push oI } → wpAny (model prog w) A (pyIter (.ref l)) Q E s) ∧
    ∀ A' : Around, A'.handled = none → ∃ St : Nat → Heap → Prop, Walks prog w A' s.heap.objs.size [s.heap.objs.size, l] [s.heap.objs.size] items.size (fun i v => items[i]? = some v) St ∧ St 0 (s.heap.push oI)
section
variable {prog : Program} {w : World} {A : Around} {E : Value → Shared → Prop} {s : Shared}
theorem src_list {l : Addr} {items : Array Value} : Src prog w "list" l items (fun h => h.IsList l items) where
  obj := fun h ok => by
    obtain ⟨⟨_, od, _, sl⟩, ho, hc, n, hd⟩ := ok
    simp only at hc hd
    subst hc hd
    exact ⟨od, n, sl, ho⟩
  push := fun h o ok => ok.push _
  subS := PySem.F.sub_list_set
  subF := PySem.F.sub_list_frozenset
  ne := by decide
  iter := fun A s ok => ⟨{ cls := .type "list_iterator", data := .fields #[.ref l, .int 0 0] }, (by intro h; cases h), fun E Q h => wpAny_pyIter_list ok h, fun A' hh => ⟨_, Walks.list hh _ l (Nat.ne_of_lt (let ⟨_, ho, _⟩ := ok; Heap.lt_size ho)) items, ⟨_, Heap.get?_push_size _ rfl, rfl, rfl⟩, ok.push _⟩⟩
theorem src_tuple {l : Addr} {items : Array Value} : Src prog w "tuple" l items (fun h => h.IsTuple l items) where
  obj := fun h ok => by
    obtain ⟨⟨_, od, _, sl⟩, ho, hc, n, hd⟩ := ok
    simp only at hc hd
    subst hc hd
    exact ⟨od, n, sl, ho⟩
  push := fun h o ok => ok.push _
  subS := PySem.F.sub_tuple_set
  subF := PySem.F.sub_tuple_frozenset
  ne := by decide
  iter := fun A s ok => ⟨{ cls := .type "tuple_iterator", data := .fields #[.ref l, .int 0 0] }, (by intro h; cases h), fun E Q h => wpAny_pyIter_tuple ok h, fun A' hh => ⟨_, Walks.tuple hh _ l (Nat.ne_of_lt (let ⟨_, ho, _⟩ := ok; Heap.lt_size ho)) items, ⟨_, Heap.get?_push_size _ rfl, rfl, rfl⟩, ok.push _⟩⟩
/-- the set, made -/
def Made (prog : Program) (w : World) (xs : List Str) (s : Shared) (h' : Heap) : Prop :=
  h'.SetOf (PySem.strKind prog w) s.heap.objs.size (seen xs xs.length) (many xs xs.length) ∧ ∀ b o, b < s.heap.objs.size → s.heap.get? b = some o → h'.get? b = some o
theorem set_init {T : String} {l : Addr} {items : Array Value} {xs : List Str} {OK : Heap → Prop} (K : Src prog w T l items OK) (hh : A.handled = none) (hl : OK s.heap) (hi : PyProof.Rows.StrsAre items.toList xs) (hn1 : xs.length + 1 < scanBound) (led : Bool) :
    wpAny (model prog w) A.in1.in1 (Builtin.«set.__init__» ⟨[.ref s.heap.objs.size, .ref l], []⟩) (fun fin s' => match fin with | .done f => f = .ret .none ∧ ∃ h' tk, s' = { s with heap := h', toks := tk } ∧ Made prog w xs s h' | .again _ => False) E
      { s with heap := s.heap.push { cls := .type "set", dict := none, data := .set #[] 0 (.fresh 0 0 led) } } := by
  have hS : (s.heap.push { cls := .type "set", dict := none, data := .set #[] 0 (.fresh 0 0 led) }).get? s.heap.objs.size = some { cls := .type "set", dict := none, data := .set #[] 0 (.fresh 0 0 led) } := Heap.get?_push_size _ rfl
  have hl1 := K.push _ { cls := .type "set", dict := none, data := .set #[] 0 (.fresh 0 0 led) } hl
  obtain ⟨od, nl, sl, hol'⟩ := K.obj _ hl1
  obtain ⟨od0, nl0, sl0, hol⟩ := K.obj _ hl
  have hsls := K.subS
  have hslf := K.subF
  have hne := K.ne
  unfold Builtin.«set.__init__» noKeywords Builtin.Frozenset.updateFrom
  generalize hPI : pyIter = PI
  wp_walk
  subst hPI
  obtain ⟨oI, _, hit, hW⟩ := K.iter A.in1.in1 { s with heap := s.heap.push { cls := .type "set", dict := none, data := .set #[] 0 (.fresh 0 0 led) } } hl1
  refine hit _ _ ?_
  refine wpAny_bind (wpAny_runValue ?_)
  have hh3 : A.in1.in1.in1.handled = none := by simp [hh]
  obtain ⟨St, W, st0⟩ := hW A.in1.in1.in1 hh3
  have hlS : l < s.heap.objs.size := Heap.lt_size hol
  have hneI : (s.heap.push { cls := .type "set", dict := none, data := .set #[] 0 (.fresh 0 0 led) }).objs.size = s.heap.objs.size + 1 := Heap.size_push _ _
  have hSf : s.heap.objs.size ∉ [(s.heap.push { cls := .type "set", dict := none, data := .set #[] 0 (.fresh 0 0 led) }).objs.size, l] := by
    intro hm
    rcases List.mem_cons.mp hm with e | hm
    · rw [hneI] at e
      exact absurd e (Nat.ne_of_lt (Nat.lt_succ_self _))
    · exact absurd (List.mem_singleton.mp hm).symm (Nat.ne_of_lt hlS)
  have hsz : xs.length = items.size := by rw [← StrsAre.len_eq hi, Array.length_toList]
  have hval : ∀ (i : Nat) (v : Value), items[i]? = some v → ∃ t, v = .str (xs.getD i Str.empty) t := fun i v hv => SS.strs_at hi i v (by rw [Array.getElem?_toList]; exact hv)
  have hS0 : ((s.heap.push { cls := .type "set", dict := none, data := .set #[] 0 (.fresh 0 0 led) }).push oI).SetOf (PySem.strKind prog w) s.heap.objs.size (seen xs 0) (many xs 0) :=
    PyProof.Rows.SetOf_congr ((PyProof.Rows.setObjOf_fresh (knd := PySem.strKind prog w) led).setOf (Heap.get?_push_of_some _ hS) (by unfold scanBound; omega)) (fun _ => rfl) rfl
  refine adds W.toS _ hSf xs hsz (by rw [← hsz]; exact hn1) hval items.size 0 _ (Nat.sub_zero _) (Nat.zero_le _) st0 hS0 fun s' hm hS' => ?_
  rw [Moved.eq_with hm]
  rw [← hsz] at hS'
  refine wpAny_pure (wpAny_pure ⟨rfl, s'.heap, s'.toks, rfl, hS', fun b o hb e => ?_⟩)
  refine hm.heap b o (fun hmem => ?_) (Heap.get?_push_of_some _ (Heap.get?_push_of_some _ e))
  rcases List.mem_cons.mp hmem with e' | hmem
  · exact absurd e' (Nat.ne_of_lt hb)
  · have e2 : b = (s.heap.push { cls := .type "set", dict := none, data := .set #[] 0 (.fresh 0 0 led) }).objs.size := List.mem_singleton.mp hmem
    rw [hneI] at e2
    exact absurd e2 (Nat.ne_of_lt (Nat.lt_succ_of_lt hb))
theorem call_set_strs {T : String} {l : Addr} {items : Array Value} {xs : List Str} {OK : Heap → Prop} {Q : Value → Shared → Prop} (K : Src prog w T l items OK) (hh : A.handled = none) (hl : OK s.heap) (hi : PyProof.Rows.StrsAre items.toList xs) (hn1 : xs.length + 1 < scanBound)
    (h : ∀ (h' : Heap) (tk : Nat), Made prog w xs s h' → Q (.ref s.heap.objs.size) { s with heap := h', toks := tk }) : wpAny (model prog w) A (call (.type "set") [.ref l]) Q E s := by
  obtain ⟨c, tl, hmro⟩ := PySem.F.called_set.mro
  have hmade := PySem.F.called_set.made
  have hsub := PySem.F.called_set.sub
  refine wpAny_call (codeAny_of_tree ?_)
  show wpAny _ _ (callAny (.type "set") _) _ _ _
  refine wpAny_pure ⟨Code.quiet_builtin _ (by decide +kernel), codeAny_builtin PySem.F.entry_type_call ?_⟩
  rw [Around.under_plain (weight_type_call_type "set" [.ref l] []) rfl]
  have h1 := PySem.F.called_set.notType
  have h2 := PySem.F.called_set.canCreate
  have hct := PySem.F.typeCall_set_1 (.ref l)
  repeat (any_goals (first | assumption | wp_step))
  refine codeAny_mono (code_set_new_1 (.ref l) (E := E) (Q₁ := fun obj s₁ => ∃ led : Bool, obj = .ref s.heap.objs.size ∧ s₁ = { s with heap := s.heap.push { cls := .type "set", dict := none, data := .set #[] 0 (.fresh 0 0 led) } }) fun led => ⟨led, rfl, rfl⟩) fun r s₁ hr => ?_
  cases r with
  | error e => exact hr
  | ok fl =>
    cases fl with
    | ret obj =>
      obtain ⟨led, rfl, rfl⟩ := hr
      have hT : Shared.TypeIs { s with heap := s.heap.push { cls := .type "set", dict := none, data := .set #[] 0 (.fresh 0 0 led) } } (.ref s.heap.objs.size) "set" := ⟨_, Heap.get?_push_size _ rfl, rfl⟩
      have hli := PySem.F.called_set.init.lookup
      have hbi := PySem.F.called_set.init.bind (.ref s.heap.objs.size)
      repeat (any_goals (first | assumption | wp_step))
      refine codeAny_mono (codeAny_call_builtin (R := wants (fun r s₂ => r = .none ∧ ∃ h' tk, s₂ = { s with heap := h', toks := tk } ∧ Made prog w xs s h') E) PySem.F.called_set.init.plain PySem.F.entry_set_init (check_set_init_1 hT ?_)) fun r₂ s₂ hr₂ => ?_
      · refine wpAny_mono (set_init (A := A) (E := fun _ _ => False) K hh hl hi hn1 led) (fun fin s' hf => ?_) fun _ _ hf => hf.elim
        cases fin with
        | done f =>
          obtain ⟨rfl, r⟩ := hf
          exact ⟨rfl, r⟩
        | again c' => exact hf.elim
      · cases r₂ with
        | error e => exact hr₂
        | ok fl₂ =>
          cases fl₂ with
          | ret r =>
            obtain ⟨rfl, h', tk, rfl, hm⟩ := hr₂
            repeat (any_goals (first | assumption | wp_step))
            exact h _ _ hm
          | _ => exact hr₂.elim
    | _ => exact hr.elim
end
/-- len(set(x)) -/
def tLenSetS (K : PySem.W.Frag) (te : TE) : TE := fun σ H Q => te σ H fun x H1 => ∃ (l : Addr) (xs : List Str), x = .ref l ∧ (SqL K H1 l (xs.map V.str) ∨ SqT K H1 l (xs.map V.str)) ∧ xs.length < 4000 ∧ Q (.int (many xs xs.length : Nat)) H1
section
variable {X : Cx}
theorem pe_lenSetS {a : Expr} {te : TE} {p p2 q pos : Pos} (hc : X.calm = true) (hg : Gl X "len") (hm : X.mg "len" = none) (hg2 : Gl X "set") (hm2 : X.mg "set" = none) (ha : PE X a te) (na : starEach [a] X.env = (false, eval a X.env) :: starEach [] X.env)
    (ns : starEach [.Call (.Name "set" p2) [a] [] q] X.env = (false, eval (.Call (.Name "set" p2) [a] [] q) X.env) :: starEach [] X.env := by rfl) :
    PE X (.Call (.Name "len" p) [.Call (.Name "set" p2) [a] [] q] [] pos) (tLenSetS X.K te) := by
  refine ⟨fun pins s σ H Q I h => ?_⟩
  refine Call_ (ld_blt I hg hm boot_len (PyProof.Rows.callWith_builtin1 (PyProof.Rows.args_cons (Call_ (ld_blt I hg2 hm2 boot_set
    (PyProof.Rows.callWith_type1 (PyProof.Rows.args_cons (thn (ha.run pins s σ H _ I h) fun v s1 ⟨x, H1, I1, r1, q1⟩ => PyProof.Rows.args_nil ?_) na) na rfl))) ns) ns rfl))
  obtain ⟨l, xs, rfl, hq, hl, q1⟩ := q1
  cases r1
  have fin : ∀ (h' : Heap) (tk : Nat), Made X.prog X.w xs s1 h' → wpAny (model X.prog X.w) X.A (spliced (backTo pos (starEach [] X.env))) (fun vs s₂ => wpAny (model X.prog X.w) X.A (call (.builtin "len") (Value.ref s1.heap.objs.size :: vs)) (EP X pins σ Q) X.xe s₂) X.xe { s1 with heap := h', toks := tk } := fun h' tk ⟨hS, hk⟩ => by
    refine PyProof.Rows.args_nil ?_
    have hle := many_le xs xs.length
    obtain ⟨o, es, ep, t, ho, hex, hd, _, _, _, hf, hn⟩ := hS
    have I2 : Inv X pins σ H1 { s1 with heap := h', toks := tk } := I1.kept fun b o e => hk b o (Heap.lt_size e) e
    exact call_len_set ho hex hd hf (by rw [hn]; omega) ⟨.int (many xs xs.length : Nat), H1, I2.tok _, ⟨_, by rw [hn]⟩, q1⟩
  have hb : xs.length + 1 < scanBound := by unfold scanBound; omega
  rcases hq with hq | hq
  · obtain ⟨its, r, pl, hz⟩ := I1.list hq
    exact call_set_strs src_list (I1.ok.hd hc) pl.isList (by simpa using L2.strsAre_of r) hb fin
  · obtain ⟨its, r, pl, hz⟩ := I1.tuple hq
    exact call_set_strs src_tuple (I1.ok.hd hc) pl (by simpa using L2.strsAre_of r) hb fin
end
end DLS

set_option Elab.async false
set_option linter.all false
set_option maxRecDepth 100000
/-! DLb: a small language: what the program's text is lowered to, and its meaning by wishes -/
namespace DL
open PySem PySem.Spec PyProof.Rows L2

/-- built-ins called by name -/
inductive Blt where
  | len | max2 | min2 | abs | int | str | list | tuple | dict | sum | max | min | all | any | sorted | listRev | tupRev | listRng1 | listRng2
  deriving DecidableEq
/-- methods of built-in types -/
inductive Mth where
  | append | extend | pop | popAt | reverse | clear | insert | join | sindex | split | partition | startswith | replace | count | zfill
  deriving DecidableEq
inductive MT where
  | str | list
  deriving DecidableEq
def Mth.ty : Mth → MT
  | .append => .list | .extend => .list | .pop => .list | .popAt => .list | .reverse => .list | .clear => .list | .insert => .list
  | _ => .str
def Mth.name : Mth → String
  | .append => "append" | .extend => "extend" | .pop => "pop" | .popAt => "pop" | .reverse => "reverse" | .clear => "clear" | .insert => "insert"
  | .join => "join" | .sindex => "index" | .split => "split" | .partition => "partition" | .startswith => "startswith" | .replace => "replace" | .count => "count" | .zfill => "zfill"
/-- what a for walks -/
inductive IK where
  | all | rng1 | rng2 | enum | zip | rev | items | keys | values
  deriving DecidableEq
/-- classes of the built-ins -/
inductive Bc where
  | non | bool | int | str | tuple | list | dict
  deriving DecidableEq
def Bc.name : Bc → String
  | .non => "NoneType" | .bool => "bool" | .int => "int" | .str => "str" | .tuple => "tuple" | .list => "list" | .dict => "dict"
/-- classes asked for by isinstance -/
inductive Ty where
  | b (n : Bc) | o (c : Nat)
  deriving DecidableEq
inductive Tg where
  | nm (i : Nat) | tp (l : List Nat)

inductive E where
  | var (i : Nat) | int (i : Int) | str (x : Str) | bl (b : Bool) | non
  | glo (x : Str)
  | bin (op : Operator) (a b : E) | neg (a : E)
  | cmp (op : CmpOp) (a b : E) | chn (o1 o2 : CmpOp) (a b c : E)
  | and (es : E) | or (es : E) | not (a : E) | ite (t a b : E)
  | tup (es : E) | lst (es : E) | dic (kk : List Key) (vs : E)
  | idx (a i : E) | slc (l u : Bool) (a lo hi : E) | rvs (a : E) | lrv (a : E) | lset (a : E)
  | call (f : Nat) (es : E)
  | blt (b : Blt) (es : E)
  | mth (m : Mth) (o es : E)
  | isi (a : E) (ts : List Ty)
  | lc (k : IK) (src : E) (own : List Nat) (t : Tg) (c : Bool) (elt cond : E)
  | nil | cons (a b : E)

/-- how an expression is asked: its value, its truth, a list of values, the rest of a chain -/
inductive Md where
  | v | t | l | av | at | ov | ot
  deriving DecidableEq

/-! ### meanings by values -/
def truD (d : D) (S : Sto) (Q : Bool → Prop) : Prop :=
  match d with
  | .non => Q false
  | .bl b => Q b
  | .int i => Q (i != 0)
  | .str x => x.length ≤ sizeLine ∧ Q ((x.length : Int) != 0)
  | .tup xs => Q (!xs.isEmpty)
  | .fl xs => Q (!xs.isEmpty)
  | .ref a => match S a with
    | some (.lst xs) => Q (!xs.isEmpty)
    | some (.dk kvs) => Q (!kvs.isEmpty)
    | _ => False
/-- behind a value: as it is asked -/
def tm (m : Md) (Q : QD) (d : D) (S : Sto) : Prop :=
  match m with
  | .v => Q d S
  | .t => truD d S fun b => Q (.bl b) S
  | _ => False

mutual
inductive DP (S : Sto) : D → PyData → Prop where
  | non : DP S .non .none
  | bl (b : Bool) : DP S (.bl b) (.bool b)
  | int (i : Int) : DP S (.int i) (.int i)
  | str (x : Str) : DP S (.str x) (.str x)
  | tup {ds : List D} {ps : List PyData} : DPs S ds ps → DP S (.tup ds) (.tuple ps)
  | fl {ds : List D} {ps : List PyData} : DPs S ds ps → DP S (.fl ds) (.list ps)
  | lst {a : Addr} {ds : List D} {ps : List PyData} : S a = some (.lst ds) → DPs S ds ps → DP S (.ref a) (.list ps)
inductive DPs (S : Sto) : List D → List PyData → Prop where
  | nil : DPs S [] []
  | cons {d : D} {p : PyData} {ds : List D} {ps : List PyData} : DP S d p → DPs S ds ps → DPs S (d :: ds) (p :: ps)
end

def flatD : D → Bool
  | .non => true
  | .bl _ => true
  | .int _ => true
  | .str _ => true
  | _ => false
def eqF : D → D → Bool
  | .non, .non => true
  | .bl a, .bl b => a == b
  | .bl a, .int b => (if a then 1 else 0) == b
  | .int a, .bl b => a == (if b then 1 else 0)
  | .int a, .int b => a == b
  | .str a, .str b => a == b
  | _, _ => false
def memF (x : D) (xs : List D) : Bool := xs.any fun y => eqF y x
def eqD (d e : D) (S : Sto) (Q : Bool → Prop) : Prop :=
  match d, e with
  | .int i, .int j => Q (decide (i = j))
  | .str x, .str y => Q (decide (x = y))
  | .bl x, .bl y => Q (decide (x = y))
  | d, e => ∃ p q, DP S d p ∧ DP S e q ∧ SeqAt.shaped p = true ∧ SeqAt.shaped q = true ∧ Q (PyData.eqv p q)
section
variable {κ : Type} [DecidableEq κ] {β : Type}
def lookD (kvs : List (κ × β)) (k : κ) : Option β := (kvs.find? fun kv => decide (kv.1 = k)).map (·.2)
def putD (kvs : List (κ × β)) (k : κ) (v : β) : List (κ × β) :=
  if (kvs.any fun kv => decide (kv.1 = k)) = true then kvs.map (fun kv => if kv.1 = k then (kv.1, v) else kv) else kvs ++ [(k, v)]
def mergeD (kvs more : List (κ × β)) : List (κ × β) := more.foldl (fun acc kv => putD acc kv.1 kv.2) kvs
end
def keyD : D → Option Key
  | .int i => some (.inl i)
  | .str x => some (.inr x)
  | _ => none
def kD : Key → D
  | .inl i => .int i
  | .inr x => .str x
/-- the entries of a dict -/
def dkOf (S : Sto) (a : Addr) : Option (List (Key × D)) :=
  match S a with
  | some (.dk kvs) => some kvs
  | some (.fz (.dk kvs)) => some kvs
  | _ => none
/-- the items of a list or a tuple -/
def seqD (d : D) (S : Sto) : Option (List D) :=
  match d with
  | .tup xs => some xs
  | .fl xs => some xs
  | .ref a => match S a with
    | some (.lst xs) => some xs
    | some (.fz (.lst xs)) => some xs
    | _ => none
  | _ => none
def inD (neg : Bool) (d e : D) (S : Sto) (Q : Bool → Prop) : Prop :=
  match e with
  | .str z => match d with
    | .str x => (∃ c, x = ⟨#[c]⟩ ∧ Q (neg != decide (c ∈ z.cps.toList))) ∨ Q (neg != !(Builtin.Str.occurrences z x 0 z.length 1).isEmpty)
    | _ => False
  | e => (∃ xs, seqD e S = some xs ∧ flatD d = true ∧ xs.all flatD = true ∧ Q (neg != memF d xs)) ∨
      ∃ a kvs k, e = .ref a ∧ dkOf S a = some kvs ∧ keyD d = some k ∧ Q (neg != (lookD kvs k).isSome)
def nonD : D → Bool
  | .non => true
  | _ => false
/-- two dicts that hold the same, too -/
def eqK (d e : D) (S : Sto) (Q : Bool → Prop) : Prop :=
  match d, e with
  | .ref a, .ref b => eqD (.ref a) (.ref b) S Q ∨ ∃ kvs, S a = some (.dk kvs) ∧ S b = some (.dk kvs) ∧ (kvs.map (·.1)).Nodup ∧ (kvs.all fun p => flatD p.2) = true ∧ Q true
  | d, e => eqD d e S Q
/-- is None, is True, is False -/
def isD (d e : D) (Q : Bool → Prop) : Prop :=
  match e with
  | .non => Q (nonD d)
  | .bl b => (match d with
    | .bl a => Q (decide (a = b))
    | _ => False)
  | _ => False
def cmpD (op : CmpOp) (d e : D) (S : Sto) (Q : Bool → Prop) : Prop :=
  match op with
  | .Eq => eqK d e S Q
  | .NotEq => eqD d e S fun b => Q (!b)
  | .Lt => match d, e with
    | .int i, .int j => Q (decide (i < j))
    | .str x, .str y => Q (decide (x.cps.toList < y.cps.toList))
    | _, _ => False
  | .LtE => match d, e with
    | .int i, .int j => Q (decide (i ≤ j))
    | .str x, .str y => Q (!decide (y.cps.toList < x.cps.toList))
    | _, _ => False
  | .Gt => match d, e with
    | .int i, .int j => Q (decide (j < i))
    | .str x, .str y => Q (decide (y.cps.toList < x.cps.toList))
    | _, _ => False
  | .GtE => match d, e with
    | .int i, .int j => Q (decide (j ≤ i))
    | .str x, .str y => Q (!decide (x.cps.toList < y.cps.toList))
    | _, _ => False
  | .Is => isD d e Q
  | .IsNot => isD d e fun b => Q (!b)
  | .In => inD false d e S Q
  | .NotIn => inD true d e S Q
def newL (xs : List D) (S : Sto) (Q : QD) : Prop := ∀ p, S p = none → Q (.ref p) (su S p (.lst xs))
def lstOf (S : Sto) (a : Addr) : Option (List D) :=
  match S a with
  | some (.lst xs) => some xs
  | _ => none
def binD (op : Operator) (d e : D) (S : Sto) (Q : QD) : Prop :=
  match op with
  | .Add => match d, e with
    | .int i, .int j => Q (.int (i + j)) S
    | .str x, .str y => x.length + y.length ≤ sizeLine ∧ Q (.str (x ++ y)) S
    | .tup xs, .tup ys => xs.length + ys.length ≤ sizeLine ∧ Q (.tup (xs ++ ys)) S
    | .ref a, .ref b => ∃ xs ys, lstOf S a = some xs ∧ lstOf S b = some ys ∧ xs.length + ys.length ≤ sizeLine ∧ newL (xs ++ ys) S Q
    | _, _ => False
  | .Sub => match d, e with
    | .int i, .int j => Q (.int (i - j)) S
    | _, _ => False
  | .Mult => match d, e with
    | .int i, .int j => (CMul i j ∨ CMulW i j) ∧ Q (.int (i * j)) S
    | .ref a, .int k => ∃ xs, lstOf S a = some xs ∧ -(2 ^ 63) ≤ k ∧ k < 2 ^ 63 ∧ xs.length * k.toNat ≤ sizeLine ∧ newL (List.replicate k.toNat xs).flatten S Q
    | _, _ => False
  | .FloorDiv => match d, e with
    | .int i, .int j => CDivW i j ∧ Q (.int (i / j)) S
    | _, _ => False
  | .Mod => match d, e with
    | .int i, .int j => 0 < j ∧ Q (.int (i % j)) S
    | _, _ => False
  | .Pow => match d, e with
    | .int i, .int j => CPow i j ∧ Q (.int (i ^ j.toNat)) S
    | _, _ => False
  | _ => False
def idxD (d i : D) (S : Sto) (Q : QD) : Prop :=
  match d with
  | .str z => ∃ j c, i = .int j ∧ z.length ≤ sizeLine ∧ atI z.cps.toList j = some c ∧ Q (.str ⟨#[c]⟩) S
  | d => (∃ xs j v, seqD d S = some xs ∧ i = .int j ∧ atI xs j = some v ∧ Q v S) ∨
      ∃ a kvs k v, d = .ref a ∧ dkOf S a = some kvs ∧ keyD i = some k ∧ lookD kvs k = some v ∧ Q v S
def cutD (xs : List D) (lo hi : Option Int) : List D := (xs.drop (HT.sIx xs.length 0 lo)).take (HT.sIx xs.length xs.length hi - HT.sIx xs.length 0 lo)
def slcD (d : D) (lo hi : Option Int) (S : Sto) (Q : QD) : Prop :=
  match d with
  | .str z => z.length ≤ sizeLine ∧ Q (.str (cutS z lo hi)) S
  | .tup xs => Q (.tup (cutD xs lo hi)) S
  | .fl xs => newL (cutD xs lo hi) S Q
  | .ref a => ∃ xs, lstOf S a = some xs ∧ newL (cutD xs lo hi) S Q
  | _ => False
/-- lists' contents as ints, as truths -/
def intsD : List D → Option (List Int)
  | [] => some []
  | .int i :: r => (intsD r).map (i :: ·)
  | _ :: _ => none
def blsD : List D → Option (List Bool)
  | [] => some []
  | .bl i :: r => (blsD r).map (i :: ·)
  | _ :: _ => none
def lenD (d : D) (S : Sto) (Q : Nat → Prop) : Prop :=
  match d with
  | .str x => x.length ≤ sizeLine ∧ Q x.length
  | d => (∃ xs, seqD d S = some xs ∧ Q xs.length) ∨ ∃ a kvs, d = .ref a ∧ dkOf S a = some kvs ∧ Q kvs.length
def tyD (T : MT) (o : D) (S : Sto) : Prop :=
  match T, o with
  | .str, .str _ => True
  | .list, .ref a => ∃ xs, lstOf S a = some xs
  | _, _ => False
def pairsD : List D → Option (List (Key × D))
  | [] => some []
  | .tup [k, v] :: r => match keyD k, pairsD r with
    | some k, some l => some ((k, v) :: l)
    | _, _ => none
  | _ :: _ => none
def strsD : List D → Option (List Str)
  | [] => some []
  | .str x :: r => (strsD r).map (x :: ·)
  | _ :: _ => none
def bltD (b : Blt) (args : List D) (S : Sto) (Q : QD) : Prop :=
  match b, args with
  | .len, [d] => lenD d S fun n => Q (.int n) S
  | .max2, [.int i, .int j] => Q (.int (if j > i then j else i)) S
  | .min2, [.int i, .int j] => Q (.int (if j < i then j else i)) S
  | .abs, [.int i] => Q (.int (if i < 0 then -i else i)) S
  | .int, [.int i] => Q (.int i) S
  | .int, [.bl k] => Q (.int (if k then 1 else 0)) S
  | .int, [.str x] => ∃ n, PySem.intText? x = some n ∧ x.length ≤ 640 ∧ Q (.int n) S
  | .str, [.int i] => i.natAbs.log2 < 1920 ∧ Q (.str (toString i)) S
  | .list, [d] => ∃ xs, seqD d S = some xs ∧ newL xs S Q
  | .tuple, [d] => ∃ xs, seqD d S = some xs ∧ Q (.tup xs) S
  | .dict, [d] => (∃ xs kvs, seqD d S = some xs ∧ d ≠ .tup xs ∧ pairsD xs = some kvs ∧ ∀ p, S p = none → Q (.ref p) (su S p (.dk (mergeD [] kvs)))) ∨
      ∃ a kvs, d = .ref a ∧ dkOf S a = some kvs ∧ ∀ p, S p = none → Q (.ref p) (su S p (.dk kvs))
  | .sum, [d] => ∃ xs ns, seqD d S = some xs ∧ d ≠ .tup xs ∧ intsD xs = some ns ∧ Q (.int ns.sum) S
  | .all, [d] => ∃ xs ns, seqD d S = some xs ∧ d ≠ .tup xs ∧ blsD xs = some ns ∧ Q (.bl (ns.all id)) S
  | _, _ => False
def mthD (m : Mth) (o : D) (args : List D) (S : Sto) (Q : QD) : Prop :=
  match m, o, args with
  | .append, .ref a, [x] => ∃ xs, lstOf S a = some xs ∧ xs.length < sizeLine ∧ Q .non (su S a (.lst (xs ++ [x])))
  | .extend, .ref a, [.ref b] => ∃ xs ys, lstOf S a = some xs ∧ lstOf S b = some ys ∧ xs.length + ys.length ≤ sizeLine ∧ Q .non (su S a (.lst (xs ++ ys)))
  | .pop, .ref a, [] => ∃ xs y, lstOf S a = some xs ∧ xs[xs.length - 1]? = some y ∧ Q y (su S a (.lst xs.dropLast))
  | .popAt, .ref a, [.int i] => ∃ xs k y, lstOf S a = some xs ∧ -(2 ^ 63) ≤ i ∧ i < 2 ^ 63 ∧ seqIndex? i xs.length = some k ∧ xs[k]? = some y ∧ Q y (su S a (.lst (xs.eraseIdx k)))
  | .reverse, .ref a, [] => ∃ xs, lstOf S a = some xs ∧ Q .non (su S a (.lst xs.reverse))
  | .clear, .ref a, [] => ∃ xs, lstOf S a = some xs ∧ Q .non (su S a (.lst []))
  | .join, .str x, [d] => ∃ xs ys, seqD d S = some xs ∧ strsD xs = some ys ∧ (ys.map (·.length)).sum + ys.length * x.length ≤ 16777216 ∧ Q (.str (Txt.join x ys)) S
  | .sindex, .str x, [.str y] => ∃ i rest, Builtin.Str.occurrences x y 0 x.length 1 = i :: rest ∧ Q (.int (i : Nat)) S
  | _, _, _ => False
/-- the built-in class of a datum -/
def clsD (d : D) (S : Sto) : Option Bc :=
  match d with
  | .non => some .non
  | .bl _ => some .bool
  | .int _ => some .int
  | .str _ => some .str
  | .tup _ => some .tuple
  | .fl _ => some .list
  | .ref a => match S a with
    | some (.lst _) => some .list
    | some (.dk _) => some .dict
    | _ => none
def isB (c t : Bc) : Bool := decide (c = t) || (decide (c = .bool) && decide (t = .int))
/-- isinstance, of a class of the built-ins -/
def isiD (d : D) (ts : List Ty) (S : Sto) : Option Bool :=
  match ts, clsD d S with
  | [.b t], some c => some (isB c t)
  | _, _ => none
/-- what a walk yields, and what must stay as it is while it walks -/
def itrD (k : IK) (d : D) (S : Sto) (R : List D → (Sto → Prop) → Prop) : Prop :=
  match k, d with
  | .all, .str x => R (x.cps.toList.map fun c => .str ⟨#[c]⟩) fun _ => True
  | .all, .ref a => ∃ xs, lstOf S a = some xs ∧ R xs fun S' => lstOf S' a = some xs
  | .all, .tup xs => R xs fun _ => True
  | .all, .fl xs => R xs fun _ => True
  | .rng1, .tup [.int j] => -(2 ^ 62) ≤ j ∧ j < 2 ^ 62 ∧ R ((List.range j.toNat).map fun n => .int ((0 : Int) + (n : Nat))) fun _ => True
  | .rng2, .tup [.int i, .int j] => (-(2 ^ 62) ≤ i ∧ i < 2 ^ 62 ∧ -(2 ^ 62) ≤ j ∧ j < 2 ^ 62) ∧ R ((List.range (j - i).toNat).map fun n => .int (i + (n : Nat))) fun _ => True
  | _, _ => False
def tgD (t : Tg) (d : D) (ρ : En) (Q : En → Prop) : Prop :=
  match t with
  | .nm i => Q (ρ.set i (some d))
  | .tp l => ∃ xs, d = .tup xs ∧ xs.length = l.length ∧ Q ((l.zip xs).foldl (fun ρ p => ρ.set p.1 (some p.2)) ρ)
def wipeD (ρ : En) : List Nat → En
  | [] => ρ
  | v :: vs => (wipeD ρ vs).set v none
/-- a comprehension's turns: the items that are left -/
def lcD (g : Sto → Prop) (t : Tg) (p : Addr) (ρ : En) (elt : En → Sto → QD → Prop) (cond : En → Sto → (Bool → Sto → Prop) → Prop) (fin : Sto → Prop) : List D → Sto → Prop
  | [], S => g S ∧ fin S
  | x :: xs, S => g S ∧ tgD t x ρ fun ρ2 => cond ρ2 S fun b S3 =>
      if b = true then elt ρ2 S3 fun y S4 => ∃ acc, lstOf S4 p = some acc ∧ acc.length < sizeLine ∧ lcD g t p ρ elt cond fin xs (su S4 p (.lst (acc ++ [y])))
      else lcD g t p ρ elt cond fin xs S3

/-- a slice's end, where it is written -/
def prt (l : Bool) (w : QD → Prop) (S : Sto) (R : Option Int → Sto → Prop) : Prop := if l = true then w (fun e S2 => ∃ i, e = .int i ∧ R (some i) S2) else R none S
/-! ### meanings of expressions -/
structure GT where
  fn : Nat → Option Str
  cs : List (Str × D)
  free : List Str
abbrev Call := Nat → List D → Sto → QD → XD → Prop
def x0 : XD := fun _ _ => False
def wp (G : GT) (Φ : Call) : E → Md → En → Sto → QD → XD → Prop
  | .var i, m, ρ, S, Q, _ => ∃ d, ρ[i]? = some (some d) ∧ tm m Q d S
  | .int i, m, _, S, Q, _ => tm m Q (.int i) S
  | .str x, m, _, S, Q, _ => tm m Q (.str x) S
  | .bl b, m, _, S, Q, _ => tm m Q (.bl b) S
  | .non, m, _, S, Q, _ => tm m Q .non S
  | .glo x, m, _, S, Q, _ => ∃ d, G.cs.lookup x = some d ∧ tm m Q d S
  | .bin op a b, m, ρ, S, Q, X => wp G Φ a .v ρ S (fun d S1 => wp G Φ b .v ρ S1 (fun e S2 => binD op d e S2 (tm m Q)) X) X
  | .neg a, m, ρ, S, Q, X => wp G Φ a .v ρ S (fun d S1 => ∃ i, d = .int i ∧ tm m Q (.int (-i)) S1) X
  | .cmp op a b, m, ρ, S, Q, X => wp G Φ a .v ρ S (fun d S1 => wp G Φ b .v ρ S1 (fun e S2 => cmpD op d e S2 fun k => tm m Q (.bl k) S2) X) X
  | .chn o1 o2 a b c, m, ρ, S, Q, X => wp G Φ a .v ρ S (fun d S1 => wp G Φ b .v ρ S1 (fun e S2 => cmpD o1 d e S2 fun k =>
      if k = true then wp G Φ c .v ρ S2 (fun f S3 => cmpD o2 e f S3 fun k => tm m Q (.bl k) S3) X else tm m Q (.bl false) S2) X) X
  | .and es, m, ρ, S, Q, X => match m with
    | .v => wp G Φ es .av ρ S Q X
    | .t => wp G Φ es .at ρ S Q X
    | _ => False
  | .or es, m, ρ, S, Q, X => match m with
    | .v => wp G Φ es .ov ρ S Q X
    | .t => wp G Φ es .ot ρ S Q X
    | _ => False
  | .not a, m, ρ, S, Q, X => match m with
    | .v => wp G Φ a .v ρ S (tm .t fun d S1 => ∃ b, d = .bl b ∧ Q (.bl (!b)) S1) X
    | .t => wp G Φ a .t ρ S (fun d S1 => ∃ b, d = .bl b ∧ Q (.bl (!b)) S1) X
    | _ => False
  | .ite t a b, m, ρ, S, Q, X => match m with
    | .v => wp G Φ t .t ρ S (fun d S1 => ∃ c, d = .bl c ∧ if c = true then wp G Φ a .v ρ S1 Q X else wp G Φ b .v ρ S1 Q X) X
    | .t => wp G Φ t .t ρ S (fun d S1 => ∃ c, d = .bl c ∧ if c = true then wp G Φ a .t ρ S1 Q X else wp G Φ b .t ρ S1 Q X) X
    | _ => False
  | .tup es, m, ρ, S, Q, X => wp G Φ es .l ρ S (fun d S1 => ∃ xs, d = .tup xs ∧ xs.length ≤ sizeLine ∧ tm m Q (.tup xs) S1) X
  | .lst es, m, ρ, S, Q, X => wp G Φ es .l ρ S (fun d S1 => ∃ xs, d = .tup xs ∧ xs.length ≤ sizeLine ∧ newL xs S1 (tm m Q)) X
  | .dic kk vs, m, ρ, S, Q, X => ∀ p, S p = none → wp G Φ vs .l ρ (su S p (.dk [])) (fun e S2 => ∃ ys, e = .tup ys ∧ S2 p = some (.dk []) ∧ tm m Q (.ref p) (su S2 p (.dk (mergeD [] (kk.zip ys))))) X
  | .idx a i, m, ρ, S, Q, X => wp G Φ a .v ρ S (fun d S1 => wp G Φ i .v ρ S1 (fun e S2 => idxD d e S2 (tm m Q)) X) X
  | .slc l u a lo hi, m, ρ, S, Q, X => wp G Φ a .v ρ S (fun d S1 => prt l (fun Q => wp G Φ lo .v ρ S1 Q X) S1 fun i S2 => prt u (fun Q => wp G Φ hi .v ρ S2 Q X) S2 fun j S3 => slcD d i j S3 (tm m Q)) X
  | .rvs a, m, ρ, S, Q, X => wp G Φ a .v ρ S (fun d S1 => ∃ xs, seqD d S1 = some xs ∧ d ≠ .tup xs ∧ newL xs.reverse S1 (tm m Q)) X
  | .lrv a, m, ρ, S, Q, X => wp G Φ a .v ρ S (fun d S1 => ∃ xs, seqD d S1 = some xs ∧ newL xs.reverse S1 (tm m Q)) X
  | .lset a, m, ρ, S, Q, X => wp G Φ a .v ρ S (fun d S1 => ∃ xs ys, seqD d S1 = some xs ∧ strsD xs = some ys ∧ ys.length < 4000 ∧ tm m Q (.int (DLS.many ys ys.length : Nat)) S1) X
  | .call f es, m, ρ, S, Q, X => wp G Φ es .l ρ S (fun d S1 => ∃ xs, d = .tup xs ∧ Φ f xs S1 (tm m Q) X) X
  | .blt b es, m, ρ, S, Q, X => wp G Φ es .l ρ S (fun d S1 => ∃ xs, d = .tup xs ∧ bltD b xs S1 (tm m Q)) X
  | .mth b o es, m, ρ, S, Q, X => wp G Φ o .v ρ S (fun o S1 => tyD b.ty o S1 ∧ wp G Φ es .l ρ S1 (fun d S2 => ∃ xs, d = .tup xs ∧ mthD b o xs S2 (tm m Q)) X) X
  | .isi a ts, m, ρ, S, Q, X => wp G Φ a .v ρ S (fun d S1 => ∃ b, isiD d ts S1 = some b ∧ tm m Q (.bl b) S1) X
  | .lc k src own t c elt cond, m, ρ, S, Q, X => wp G Φ src (if k = .all then .v else .l) ρ S (fun d S1 => itrD k d S1 fun items g =>
      ∀ p, S1 p = none → lcD g t p (wipeD ρ own) (fun ρ S Q => wp G Φ elt .v ρ S Q x0) (fun ρ S Q => if c = true then wp G Φ cond .t ρ S (fun d S => ∃ b, d = .bl b ∧ Q b S) x0 else Q true S)
        (tm m Q (.ref p)) items (su S1 p (.lst []))) X
  | .nil, m, _, S, Q, _ => match m with
    | .l => Q (.tup []) S
    | _ => False
  | .cons a b, m, ρ, S, Q, X => match m with
    | .l => wp G Φ a .v ρ S (fun d S1 => wp G Φ b .l ρ S1 (fun e S2 => ∃ xs, e = .tup xs ∧ Q (.tup (d :: xs)) S2) X) X
    | .av => match b with
      | .nil => wp G Φ a .v ρ S Q X
      | _ => wp G Φ a .v ρ S (fun d S1 => ∃ c, d = .bl c ∧ if c = true then wp G Φ b .av ρ S1 Q X else Q (.bl false) S1) X
    | .ov => match b with
      | .nil => wp G Φ a .v ρ S Q X
      | _ => wp G Φ a .v ρ S (fun d S1 => ∃ c, d = .bl c ∧ if c = true then Q (.bl true) S1 else wp G Φ b .ov ρ S1 Q X) X
    | .at => match b with
      | .nil => wp G Φ a .t ρ S Q X
      | _ => wp G Φ a .t ρ S (fun d S1 => ∃ c, d = .bl c ∧ if c = true then wp G Φ b .at ρ S1 Q X else Q (.bl false) S1) X
    | .ot => match b with
      | .nil => wp G Φ a .t ρ S Q X
      | _ => wp G Φ a .t ρ S (fun d S1 => ∃ c, d = .bl c ∧ if c = true then Q (.bl true) S1 else wp G Φ b .ot ρ S1 Q X) X
    | _ => False

/-! ### statements -/
inductive T where
  | nm (i : Nat) | tp (l : List Nat) | sub (o i : E)
inductive C where
  | skip | seq (a b : C)
  | set (t : T) (e : E)
  | par (i j : Nat) (a b : E)
  | aug (i : Nat) (op : Operator) (e : E)
  | expr (e : E) | ret (e : E) | retN
  | ite (c : E) (a b : C)
  | for (k : IK) (src : E) (t : Tg) (b : C)
  | while (c : E) (b : C)
  | brk | cnt | pass | never
structure DE where
  nx : En → Sto → Prop
  rt : QD
  bk : En → Sto → Prop := fun _ _ => False
  ct : En → Sto → Prop := fun _ _ => False
  ex : Ex → En → Sto → Prop := fun _ _ _ => False
def setD (o i v : D) (S : Sto) (Q : Sto → Prop) : Prop :=
  match o with
  | .ref a => (∃ xs k j, i = .int k ∧ lstOf S a = some xs ∧ ixN xs.length k = some j ∧ Q (su S a (.lst (xs.set j v)))) ∨
      ∃ kvs k, S a = some (.dk kvs) ∧ keyD i = some k ∧ kvs.length < sizeLine ∧ Q (su S a (.dk (putD kvs k v)))
  | _ => False
def forD (g : Sto → Prop) (t : Tg) (body : DE → En → Sto → Prop) (e : DE) : List D → En → Sto → Prop
  | [], ρ, S => g S ∧ e.nx ρ S
  | x :: xs, ρ, S => g S ∧ tgD t x ρ fun ρ2 => body { e with nx := forD g t body e xs, ct := forD g t body e xs, bk := e.nx } ρ2 S
/-- a while: the least of all that hold at each turn's begin -/
def whiD (c : En → Sto → (Bool → Sto → Prop) → Prop) (body : DE → En → Sto → Prop) (e : DE) (ρ : En) (S : Sto) : Prop :=
  ∃ W : Nat → En → Sto → Prop, (∃ n, W n ρ S) ∧ ∀ n ρ S, W n ρ S → c ρ S fun b S1 => if b = true then
    body { e with nx := fun ρ' S' => ∃ m, m < n ∧ W m ρ' S', ct := fun ρ' S' => ∃ m, m < n ∧ W m ρ' S', bk := e.nx } ρ S1 else e.nx ρ S1
def augI : Operator → Int → Int → Option Int
  | .Add, a, b => some (a + b)
  | .Sub, a, b => some (a - b)
  | _, _, _ => none
def augB : Operator → Bool
  | .Add => true
  | .Sub => true
  | _ => false
def wc (G : GT) (Φ : Call) : C → DE → En → Sto → Prop
  | .skip, e, ρ, S => e.nx ρ S
  | .seq a b, e, ρ, S => wc G Φ a { e with nx := wc G Φ b e } ρ S
  | .set t x, e, ρ, S => match t with
    | .nm i => wp G Φ x .v ρ S (fun d S1 => e.nx (ρ.set i (some d)) S1) (fun x S => e.ex x ρ S)
    | .tp l => wp G Φ x .v ρ S (fun d S1 => tgD (.tp l) d ρ fun ρ2 => e.nx ρ2 S1) (fun x S => e.ex x ρ S)
    | .sub o i => wp G Φ x .v ρ S (fun d S1 => wp G Φ o .v ρ S1 (fun oo S2 => wp G Φ i .v ρ S2 (fun ii S3 => setD oo ii d S3 fun S4 => e.nx ρ S4) (fun x S => e.ex x ρ S)) (fun x S => e.ex x ρ S)) (fun x S => e.ex x ρ S)
  | .par i j a b, e, ρ, S => wp G Φ a .v ρ S (fun d S1 => wp G Φ b .v ρ S1 (fun f S2 => e.nx ((ρ.set i (some d)).set j (some f)) S2) (fun x S => e.ex x ρ S)) (fun x S => e.ex x ρ S)
  | .aug i op x, e, ρ, S => ∃ d, ρ[i]? = some (some d) ∧ wp G Φ x .v ρ S (fun f S1 => ∃ a b n, d = .int a ∧ f = .int b ∧ augI op a b = some n ∧ e.nx (ρ.set i (some (.int n))) S1) (fun x S => e.ex x ρ S)
  | .expr x, e, ρ, S => wp G Φ x .v ρ S (fun _ S1 => e.nx ρ S1) (fun x S => e.ex x ρ S)
  | .ret x, e, ρ, S => wp G Φ x .v ρ S e.rt (fun x S => e.ex x ρ S)
  | .retN, e, _, S => e.rt .non S
  | .ite c a b, e, ρ, S => wp G Φ c .t ρ S (fun d S1 => ∃ k, d = .bl k ∧ if k = true then wc G Φ a e ρ S1 else wc G Φ b e ρ S1) (fun x S => e.ex x ρ S)
  | .for k src t b, e, ρ, S => wp G Φ src (if k = .all then .v else .l) ρ S (fun d S1 => itrD k d S1 fun items g => forD g t (wc G Φ b) e items ρ S1) (fun x S => e.ex x ρ S)
  | .while c b, e, ρ, S => whiD (fun ρ S Q => wp G Φ c .t ρ S (fun d S => ∃ b, d = .bl b ∧ Q b S) (fun x S => e.ex x ρ S)) (wc G Φ b) e ρ S
  | .brk, e, ρ, S => e.bk ρ S
  | .cnt, e, ρ, S => e.ct ρ S
  | .pass, e, ρ, S => e.nx ρ S
  | .never, _, _, _ => False

/-! ### defs -/
structure Fd where
  np : Nat
  ns : Nat
  body : C
def startD (n : Nat) (ds : List D) : En := ds.map some ++ List.replicate (n - ds.length) none
def Phi (G : GT) (defs : Nat → Option Fd) : Nat → Call
  | 0, _, _, _, _, _ => False
  | k + 1, f, ds, S, Q, X => match defs f with
    | some d => ds.length = d.np ∧ wc G (Phi G defs k) d.body { nx := fun _ S' => Q .non S', rt := Q, ex := fun x _ S' => X x S' } (startD d.ns ds) S
    | none => False
end DL

set_option Elab.async false
set_option linter.all false
set_option maxRecDepth 100000
set_option maxHeartbeats 1000000
/-! DLr: list(reversed(x)), x a list or a tuple -/
namespace DLR
open PySem PySem.Spec PyProof.Rows L2 RT

theorem nolen_rt : typeLookup (.type "reversed") "__len__" = pure none := by rw [typeLookup_type, builtinLookup_eq_fast]; kernel_rfl
theorem slot_rt_hint : Slot "reversed" "__length_hint__" "reversed.__length_hint__" :=
  .of (owner := "reversed") (n := "__length_hint__") (by rw [typeLookup_type, builtinLookup_eq_fast]; kernel_rfl) (by decide +kernel) (by decide +kernel) (by decide +kernel)
    (by first | exact .inl (by decide +kernel) | exact .inr (by decide +kernel)) (by rw [isSubtype_type]; kernel_rfl)
theorem entry_rt_hint : entryFor table "reversed.__length_hint__" = some Builtin.«reversed.__length_hint__» := entryFor_of_tree (by kernel_rfl)
theorem args_rt_hint (a : Value) : argsOk "reversed.__length_hint__" ⟨[a], []⟩ := by
  unfold argsOk; rw [signature?_of (id := "reversed.__length_hint__") (n := ['_', '_', 't', 'n', 'i', 'h', '_', 'h', 't', 'g', 'n', 'e', 'l', '_', '_']) (o := ['d', 'e', 's', 'r', 'e', 'v', 'e', 'r']) (by kernel_rfl) owner_rt]; kernel_rfl

section
variable {prog : Program} {w : World} {A : Around} {E : Value → Shared → Prop} {s : Shared}
theorem hint_rt {it t : Addr} {items : Array Value} {Q : Bool → Shared → Prop} (hit : IsRt s.heap it t ((items.size : Int) - 1)) (ht : IsTup s.heap t items) (hn : items.size ≤ sizeLine) (h : ∀ b tk, Q b { s with toks := tk }) :
    wpAny (model prog w) A (Builtin.List.listLengthHint (.ref it)) Q E s := by
  have hT : s.TypeIs (.ref it) "reversed" := hit.typeIs
  have hl63 := line63
  unfold Builtin.List.listLengthHint
  refine wpAny_bind (wpAny_specialOf hT nolen_rt ?_)
  show wpAny _ A (specialOf (Value.ref it) (Str.ofString "__length_hint__") >>= _) _ _ _
  refine wpAny_bind (wpAny_specialOf hT slot_rt_hint.lookup ?_)
  generalize hid : ("reversed.__length_hint__" : String) = id0
  wp_delta
  rw [show splitId id0 = some ("reversed", "__length_hint__") from by subst hid; decide +kernel]
  subst hid
  refine wpAny_bind (wpAny_isInstance (b := true) hT (by rw [isSubtype_type]; kernel_rfl) ?_)
  refine wpAny_bind (wpAny_rule ?_)
  refine wpAny_bind (wpAny_of_eq (slot_rt_hint.bind _) ?_)
  refine wpAny_bind (wpAny_attempt ?_)
  refine wpAny_call_entry slot_rt_hint hT entry_rt_hint ?_ (args_rt_hint _)
  obtain ⟨o, ho, hc, hd⟩ := id hit
  unfold Builtin.«reversed.__length_hint__»
  refine wpAny_bind (wpAny_of_eq (a := Value.ref it) rfl ?_)
  try dsimp only
  refine wpAny_bind (wpAny_field ho hd (x := .ref t) rfl ?_)
  rw [if_neg (show ¬ ((Value.ref t == Value.none) = true) from Bool.false_ne_true)]
  refine wpAny_bind (len_tuple ht (by omega) ?_)
  refine wpAny_bind (wpAny_of_eq (a := some ((items.size : Nat) : Int)) rfl ?_)
  try dsimp only
  refine wpAny_bind (wpAny_field (s := { s with toks := s.toks + 1 + 1 }) ho hd (x := rawInt ((items.size : Int) - 1)) rfl ?_)
  show wpAny _ _ (if (items.size : Int) < (items.size : Int) - 1 + 1 then _ else _) _ _ _
  rw [if_neg (by omega)]
  refine wpAny_bind (wpAny_mkInt ?_)
  refine wpAny_pure ⟨_, rfl, ?_⟩
  refine wpAny_bind (wpAny_of_eq (a := some ((items.size : Int) - 1 + 1)) rfl ?_)
  try dsimp only
  rw [if_neg (by
    have : Builtin.List.listFitsIndex ((items.size : Int) - 1 + 1) = true := by
      unfold Builtin.List.listFitsIndex
      simp only [decide_eq_true_eq, Bool.and_eq_true]
      omega
    rw [this]; decide)]
  rw [if_neg (by omega)]
  rw [if_neg (by
    have : Builtin.List.listTooLong ((items.size : Int) - 1 + 1).toNat = false := by
      unfold Builtin.List.listTooLong
      have : ((items.size : Int) - 1 + 1).toNat ≤ sizeLine := by omega
      simp only [decide_eq_false_iff_not]
      omega
    rw [this]; decide)]
  exact wpAny_pure (h _ _)

/-- what runs backwards over the object l of n items -/
structure RvSrc (prog : Program) (w : World) (T : String) (r l : Addr) (n : Nat) (P : Nat → Value → Prop) (OK : Heap → Prop) : Prop where
  type : ∀ s : Shared, OK s.heap → s.TypeIs (.ref r) T
  there : ∀ h : Heap, OK h → r < h.objs.size ∧ l < h.objs.size
  keep : ∀ h h' : Heap, OK h → (∀ b, b = r ∨ b = l → ∀ o, h.get? b = some o → h'.get? b = some o) → OK h'
  notList : (Value.type T == Value.type "list") = false
  notTuple : (Value.type T == Value.type "tuple") = false
  hint : ∀ (A : Around) (E : Value → Shared → Prop) (s : Shared) (Q : Bool → Shared → Prop), OK s.heap → (∀ b tk, Q b { s with toks := tk }) → wpAny (model prog w) A (Builtin.List.listLengthHint (.ref r)) Q E s
  walk : ∀ (A : Around), A.handled = none → ∃ St : Nat → Heap → Prop, Walks prog w A r [r, l] [r] n P St ∧ ∀ h, OK h → St 0 h
end
section
variable {prog : Program} {w : World} {A : Around} {E : Value → Shared → Prop} {s : Shared} {T : String} {r l : Addr} {n : Nat} {P : Nat → Value → Prop} {OK : Heap → Prop}
theorem rv_extend {R : Result → Shared → Prop} (K : RvSrc prog w T r l n P OK) (hh : A.handled = none) (hok : OK s.heap) (S : Addr) (hSr : S ≠ r) (hSl : S ≠ l) (res : Value) (c₀ : Nat) (hS : s.heap.get? S = some { cls := .type "list", data := .seq #[] c₀ })
    (hR : ∀ h' tk acc' c', (∀ b o, b ≠ S → b ≠ r → s.heap.get? b = some o → h'.get? b = some o) → h'.get? S = some { cls := .type "list", dict := none, data := .seq acc' c', slots := #[] } → ItemsOf P acc' n → R (.ok (.ret res)) { s with heap := h', toks := tk }) (hn : n ≤ sizeLine) :
    wpAny (model prog w) A.in1 (Builtin.List.listExtendWith (.ref S) (.ref r) res)
      (fun fin s' => match fin with | .done f => R (.ok f) s' | .again c' => c'.quiet = true ∧ codeAny (model prog w) A c' R s') (fun e s' => R (.error e) s') s := by
  have hSf : S ∉ [r, l] := by
    intro h
    rcases List.mem_cons.mp h with h | h
    · exact hSr h
    · exact hSl (List.mem_singleton.mp h)
  obtain ⟨St, W, st0⟩ := K.walk A.in1 hh
  have key : ∀ (h : Heap) (c₁ tk : Nat), OK h → (∀ b o, b ≠ S → b ≠ r → s.heap.get? b = some o → h.get? b = some o) →
      h.get? S = some { cls := .type "list", data := .seq #[] c₁ } → codeAny (model prog w) A (.builtin "list.extend.loop" ⟨[.ref S, .ref r, res], []⟩) R { s with heap := h, toks := tk } := by
    intro h c₁ tk hst hk hS₁
    refine codeAny_extend_loopS W.toS hn S hSf res n 0 _ #[] c₁ rfl (Nat.zero_le _) (st0 _ hst) hS₁ (ItemsOf.nil _) fun s' acc' c' hm hS' hacc => ?_
    rw [Moved.eq_with hm]
    refine hR s'.heap s'.toks acc' c' (fun b o hb hbr e => hm.heap b o (fun hmem => ?_) (hk b o hb hbr e)) hS' hacc
    rcases List.mem_cons.mp hmem with e' | hmem
    · exact hb e'
    · exact hbr (List.mem_singleton.mp hmem)
  have ot : ∀ (f : Obj → Obj) (h : Heap) (b : Addr) (o : Obj), b ≠ S → h.get? b = some o → (h.update S f).get? b = some o := fun f h b o hb e => (Heap.get?_update_other _ _ (Ne.symm hb)).trans e
  unfold Builtin.List.listExtendWith
  refine wpAny_bind (wpAny_typeOf (T := T) (K.type s hok) ?_)
  have h1 : Builtin.List.listSameRef (.ref S) (.ref r) = false := by simp [Builtin.List.listSameRef, hSr]
  rw [if_neg (by rw [h1, K.notList, K.notTuple]; decide)]
  refine wpAny_bind (W.self 0 s _ _ (st0 _ hok) ?_)
  refine wpAny_bind (wpAny_holding (K.hint _ _ _ _ hok fun b tk => ?_))
  refine wpAny_ite_split (fun _ => ?_) (fun _ => wpAny_pure ⟨plainId_quiet PySem.F.plain_extend_loop _, key _ c₀ _ hok (fun b o _ _ e => e) hS⟩)
  refine wpAny_bind (wpAny_rule ?_)
  refine wpAny_bind ?_
  show wpAny _ _ (updateSeq S (·.push .none) >>= fun _ => updateSeq S (·.pop)) _ _ _
  refine wpAny_bind (wpAny_updateSeq (s := { s with toks := tk }) hS rfl ?_)
  have hS₂ := Heap.get?_update_self (Obj.mapSeq (·.push Value.none)) hS rfl
  refine wpAny_updateSeq (hz := by seq_fits) hS₂ rfl ?_
  have hS₃ := Heap.get?_update_self (Obj.mapSeq (·.pop)) hS₂ rfl
  have ok3 := fun b hb o e => ot (Obj.mapSeq (·.pop)) _ b o hb (ot (Obj.mapSeq (·.push Value.none)) s.heap b o hb e)
  refine wpAny_pure ⟨plainId_quiet PySem.F.plain_extend_loop _, key _ _ _ (K.keep _ _ hok fun b hb o e => ok3 b ?_ o e) (fun b o hb _ e => ok3 b hb o e) hS₃⟩
  rcases hb with rfl | rfl
  · exact hSr.symm
  · exact hSl.symm
theorem rv_call {Q : Value → Shared → Prop} (K : RvSrc prog w T r l n P OK) (hh : A.handled = none) (hok : OK s.heap) (hn : n ≤ sizeLine)
    (hQ : ∀ h' tk acc' c', (∀ b o, b ≠ r → s.heap.get? b = some o → h'.get? b = some o) → h'.get? s.heap.objs.size = some { cls := .type "list", dict := none, data := .seq acc' c', slots := #[] } → ItemsOf P acc' n → Q (.ref s.heap.objs.size) { s with heap := h', toks := tk }) :
    wpAny (model prog w) A (call (.type "list") [.ref r]) Q E s := by
  refine callType_codes (Q₁ := fun obj s₁ => obj = .ref s.heap.objs.size ∧ s₁ = { s with heap := s.heap.push { cls := .type "list", data := .seq #[] } }) PySem.F.called_list (PySem.F.typeCall_list_1 _) PySem.F.entry_list_init
    (code_list_new _ ⟨rfl, rfl⟩) fun obj s₁ h₁ => ?_
  obtain ⟨rfl, rfl⟩ := h₁
  have hS : (s.heap.push { cls := .type "list", data := .seq #[] }).get? s.heap.objs.size = some { cls := .type "list", data := .seq #[] } := Heap.get?_push_size _ rfl
  have hlt := K.there _ hok
  have hSr := Nat.ne_of_gt hlt.1
  have hSl := Nat.ne_of_gt hlt.2
  refine ⟨⟨_, hS, rfl⟩, PySem.F.args_list_init_2 _ _, ?_⟩
  show wpAny _ _ (do let old ← Builtin.List.listItems (.ref s.heap.objs.size); Builtin.List.listUpdate (.ref s.heap.objs.size) (fun _ => #[]); letGo old.toList.reverse; Builtin.List.listExtendWith (.ref s.heap.objs.size) (.ref r) .none) _ _ _
  refine wpAny_bind ?_
  unfold Builtin.List.listItems
  refine wpAny_bind (wpAny_seqItems hS rfl (wpAny_pure ?_))
  refine wpAny_bind ?_
  show wpAny _ _ (updateSeq s.heap.objs.size (fun _ => #[])) _ _ _
  refine wpAny_updateSeq hS rfl ?_
  have hS₂ := Heap.get?_update_self (Obj.mapSeq (fun _ => (#[] : Array Value))) hS rfl
  have oth : ∀ b o, b ≠ s.heap.objs.size → s.heap.get? b = some o → ((s.heap.push { cls := .type "list", data := .seq #[] }).update s.heap.objs.size (Obj.mapSeq (fun _ => (#[] : Array Value)))).get? b = some o :=
    fun b o hb e => (Heap.get?_update_other _ _ (Ne.symm hb)).trans (Heap.get?_push_of_some _ e)
  refine wpAny_bind (wpAny_letGo ?_)
  refine rv_extend (A := A.in1) K hh (K.keep _ _ hok fun b hb o e => oth b o (by rcases hb with rfl | rfl; exact hSr.symm; exact hSl.symm) e) _ hSr hSl .none _ hS₂ (fun h' tk acc' c' hk hS' hacc => ?_) hn
  exact ⟨rfl, hQ h' tk acc' c' (fun b o hbr e => hk b o (Nat.ne_of_lt (Heap.lt_size e)) hbr (oth b o (Nat.ne_of_lt (Heap.lt_size e)) e)) hS' hacc⟩
theorem rv_list {it l : Addr} {items : Array Value} (hne : l ≠ it) :
    RvSrc prog w "list_reverseiterator" it l items.size (fun i v => items[items.size - 1 - i]? = some v) (fun h => h.IsRevIter it l ((items.size : Int) - 1) ∧ h.IsList l items) where
  type := fun _ h => h.1.typeIs
  there := fun _ h => ⟨let ⟨_, ho, _⟩ := h.1; Heap.lt_size ho, let ⟨_, ho, _⟩ := h.2; Heap.lt_size ho⟩
  keep := fun _ _ h k => ⟨h.1.at fun o e => k it (.inl rfl) o e, h.2.at fun o e => k l (.inr rfl) o e⟩
  notList := by decide
  notTuple := by decide
  hint := fun A E s Q h hq => by
    have hT : s.TypeIs (.ref it) "list_reverseiterator" := h.1.typeIs
    unfold Builtin.List.listLengthHint
    refine wpAny_bind (wpAny_specialOf hT nolen_lri ?_)
    show wpAny _ A (specialOf (Value.ref it) (Str.ofString "__length_hint__") >>= _) _ _ _
    refine wpAny_bind (wpAny_specialOf hT hint_lri ?_)
    generalize hid : ("list_reverseiterator.__length_hint__" : String) = id0
    wp_delta
    rw [show splitId id0 = some ("list_reverseiterator", "__length_hint__") from by subst hid; decide +kernel]
    subst hid
    refine wpAny_bind (wpAny_isInstance (b := true) hT (by rw [isSubtype_type]; kernel_rfl) ?_)
    exact wpAny_pure (hq _ s.toks)
  walk := fun A hh => ⟨_, Walks.listRev hh it l hne items, fun h ok => ⟨Nat.zero_le _, by
    have e0 : ((items.size : Nat) : Int) - 1 - ((0 : Nat) : Int) = (items.size : Int) - 1 := by omega
    rw [e0]; exact ok.1, ok.2⟩⟩
theorem tupAt {h h' : Heap} {t : Addr} {items : Array Value} (x : IsTup h t items) (e : ∀ o, h.get? t = some o → h'.get? t = some o) : IsTup h' t items := let ⟨o, ho, r⟩ := x; ⟨o, e _ ho, r⟩
theorem walks_rt (hh : A.handled = none) {it t : Addr} {items : Array Value} (hne : t ≠ it) (hn : items.size ≤ sizeLine) :
    Walks prog w A it [it, t] [it] items.size (fun i v => items[items.size - 1 - i]? = some v) (fun i h => i ≤ items.size ∧ IsRt h it t ((items.size : Int) - 1 - (i : Int)) ∧ IsTup h t items) where
  sub := fun b hb => by simp at hb; simp [hb]
  frame := fun _ _ _ x hk => ⟨x.1, x.2.1.at fun o e => hk it (by simp) o e, tupAt x.2.2 fun o e => hk t (by simp) o e⟩
  item := fun i s Q E hi x hQ => by
    have e : (items.size : Int) - 1 - (i : Int) = ((items.size - 1 - i : Nat) : Int) := by omega
    have hit := x.2.1
    rw [e] at hit
    have hx : items[items.size - 1 - i]? = some (items[items.size - 1 - i]'(by omega)) := Array.getElem?_eq_getElem (by omega)
    refine next_rt_item hit x.2.2 hx hn fun h' hit' hs' => ?_
    have e2 : ((items.size - 1 - i : Nat) : Int) - 1 = (items.size : Int) - 1 - ((i + 1 : Nat) : Int) := by omega
    rw [e2] at hit'
    exact hQ _ h' _ hx ⟨hi, hit', tupAt x.2.2 fun o eo => (hs'.2 t hne).trans eo⟩ fun b o hb eo => hs'.extBut b o (fun h => hb (by simp [h])) eo
  done := fun s Q E x hQ => by
    have e : (items.size : Int) - 1 - (items.size : Int) = -1 := by omega
    have hit := x.2.1
    rw [e] at hit
    exact next_rt_end hh hit fun h' he' => hQ h' s.toks fun b o hb eo => he' b o (fun h => hb (by simp [h])) eo
  self := fun _ _ _ _ x hQ => iter_rt x.2.1 hQ
theorem rv_tup {it t : Addr} {items : Array Value} (hne : t ≠ it) (hn : items.size ≤ sizeLine) :
    RvSrc prog w "reversed" it t items.size (fun i v => items[items.size - 1 - i]? = some v) (fun h => IsRt h it t ((items.size : Int) - 1) ∧ IsTup h t items) where
  type := fun _ h => h.1.typeIs
  there := fun _ h => ⟨let ⟨_, ho, _⟩ := h.1; Heap.lt_size ho, let ⟨_, ho, _⟩ := h.2; Heap.lt_size ho⟩
  keep := fun _ _ h k => ⟨h.1.at fun o e => k it (.inl rfl) o e, tupAt h.2 fun o e => k t (.inr rfl) o e⟩
  notList := by decide
  notTuple := by decide
  hint := fun A E s Q h hq => hint_rt h.1 h.2 hn hq
  walk := fun A hh => ⟨_, walks_rt hh hne hn, fun h ok => ⟨Nat.zero_le _, by
    have e0 : ((items.size : Nat) : Int) - 1 - ((0 : Nat) : Int) = (items.size : Int) - 1 := by omega
    rw [e0]; exact ok.1, ok.2⟩⟩
end
/-- list(reversed(x)) -/
def tListRev (K : PySem.W.Frag) (te : TE) : TE := fun σ H Q => te σ H fun v H1 => ∃ (a : Addr) (xs : List V), v = .ref a ∧ (SqL K H1 a xs ∨ SqT K H1 a xs) ∧ ∀ q, H1 q = none → Q (.ref q) (upd H1 q (.lst xs.reverse))
section
variable {X : Cx}
theorem lay {pins : List (Addr × Obj)} {σ : L2.St} {H1 : Hp} {s1 : Shared} {Q : VK} {xs : List V} {its : List Value} {ob : Obj} {h' : Heap} {tk : Nat} {acc : Array Value} {c' : Nat} (I1 : L2.Inv X pins σ H1 s1)
    (hk : ∀ b o, b ≠ s1.heap.objs.size → (s1.heap.push ob).get? b = some o → h'.get? b = some o) (hS : h'.get? (s1.heap.push ob).objs.size = some { cls := .type "list", dict := none, data := .seq acc c', slots := #[] })
    (rv : Vals xs its) (hz : xs.length ≤ sizeLine) (hi : ItemsOf (fun i v => its.toArray[its.toArray.size - 1 - i]? = some v) acc its.toArray.size) (q : ∀ q, H1 q = none → Q (.ref q) (upd H1 q (.lst xs.reverse))) :
    EP X pins σ Q (.ref (s1.heap.push ob).objs.size) { s1 with heap := h', toks := tk } := by
  have hle : s1.heap.objs.size ≤ (s1.heap.push ob).objs.size := by simp [Heap.push]
  refine ⟨.ref (s1.heap.push ob).objs.size, upd H1 (s1.heap.push ob).objs.size (.lst xs.reverse), I1.laid (t' := tk) (fun b o e => hk b o (Nat.ne_of_lt (Heap.lt_size e)) (Heap.get?_push_of_some _ e)) hle
    (show ObjOk X.prog X.w _ _ _ (.lst xs.reverse) from ⟨by rw [List.length_reverse]; exact hz, acc.toList, c', vals_rev rv hi, ?_⟩), rfl, q _ (I1.hok.fresh hle)⟩
  rw [Array.toArray_toList]
  exact hS
theorem pe_listRev {e : Expr} {te : TE} {p p2 pos pos2 : Pos} (hc : X.calm = true) (hg : Gl X "list") (hm : X.mg "list" = none) (hg2 : Gl X "reversed") (hm2 : X.mg "reversed" = none) (he : PE X e te)
    (hs : starEach [e] X.env = (false, eval e X.env) :: starEach [] X.env := by rfl)
    (hs2 : starEach [.Call (.Name "reversed" p2) [e] [] pos2] X.env = (false, eval (.Call (.Name "reversed" p2) [e] [] pos2) X.env) :: starEach [] X.env := by rfl) :
    PE X (.Call (.Name "list" p) [.Call (.Name "reversed" p2) [e] [] pos2] [] pos) (tListRev X.K te) := by
  refine ⟨fun pins s σ H Q I h => ?_⟩
  refine Call_ (ld_blt I hg hm boot_list (PyProof.Rows.callWith_type1 (args_cons (Call_ (ld_blt I hg2 hm2 PyProof.Rows.boot_reversed (PyProof.Rows.callWith_type1 (args_cons (thn (he.run pins s σ H _ I h) fun u s1 ⟨v, H1, I1, r1, q1⟩ => args_nil ?_) hs) hs rfl))) hs2) hs2 rfl))
  obtain ⟨a, xs, ev, hq, q⟩ := q1
  subst ev
  obtain rfl : u = Value.ref a := r1
  have hn63 := line63
  rcases hq with hq | hq
  · obtain ⟨its, rv, p', hz⟩ := I1.list hq
    refine call_reversed_list p'.isList (args_nil ?_)
    have I2 : Inv X pins σ H1 { s1 with heap := s1.heap.push (revObj a ((its.toArray.size : Int) - 1)) } := I1.kept (t' := s1.toks) fun b o e => Heap.get?_push_of_some _ e
    obtain ⟨f0, f1, f2, f3, f4, f5⟩ := I1.fpOk (H' := H1) (b := s1.heap.objs.size) (Nat.le_refl _) (I1.hok.fresh (Nat.le_refl _))
    have hl := p'.isList
    obtain ⟨ol, hol, _⟩ := id hl
    have hne : a ≠ s1.heap.objs.size := Nat.ne_of_lt (Heap.lt_size hol)
    have hn : its.toArray.size ≤ sizeLine := by rw [List.size_toArray, ← rv.length]; exact hz
    refine rv_call (s := { s1 with heap := s1.heap.push (revObj a ((its.toArray.size : Int) - 1)) }) (rv_list hne) (I1.ok.hd hc) ⟨⟨_, Heap.get?_push_size _ rfl, rfl, rfl⟩, hl.push _⟩ hn fun h' tk acc c' hk hS hi => ?_
    exact lay I1 hk hS rv hz hi q
  · obtain ⟨its, rv, p', hz⟩ := I1.tuple hq
    have hl := rv.length
    refine call_reversed_tup p' (fun A E Q k => len_tuple p' (by simp only [List.size_toArray] <;> omega) k) (args_nil ?_)
    obtain ⟨ol, hol, _⟩ := id p'
    have hne : a ≠ s1.heap.objs.size := Nat.ne_of_lt (Heap.lt_size hol)
    have hn : its.toArray.size ≤ sizeLine := by rw [List.size_toArray, ← rv.length]; exact hz
    refine rv_call (s := { s1 with heap := s1.heap.push (rtObj a ((its.toArray.size : Int) - 1)), toks := s1.toks + 1 + 1 }) (rv_tup hne hn) (I1.ok.hd hc) ⟨⟨_, Heap.get?_push_size _ rfl, rfl, rfl⟩, tupAt p' fun o e => Heap.get?_push_of_some _ e⟩ hn fun h' tk acc c' hk hS hi => ?_
    exact lay I1 hk hS rv hz hi q
end
end DLR

set_option Elab.async false
set_option linter.all false
set_option maxRecDepth 100000
/-! DLc: the layer's rules by values, over data trees -/
namespace DL
open PySem PySem.Spec PyProof.Rows L2

def RX (K : PySem.W.Frag) (H : Hp) (cls : Nat → Addr) (e : Ex) (c : Value) (a : Option Addr) : Prop :=
  c = .ref (cls e.c) ∧ ((e.fs = [] ∧ a = none) ∨ ∃ d gs, a = some d ∧ H d = some (.xd gs) ∧ KP K H e.fs gs)
/-- wishes over data, as wishes over the heap -/
def QL (K : PySem.W.Frag) (cls : Nat → Addr) (H : Hp) (q : QD) (Q : VK) : Prop := ∀ d S' v H', TK K H H' → RS K H' cls S' → RV K H' d v → q d S' → Q v H'
def XL (K : PySem.W.Frag) (cls : Nat → Addr) (H : Hp) (x : XD) (E : XK) : Prop := ∀ e S' c a H', TK K H H' → RS K H' cls S' → RX K H' cls e c a → x e S' → E c a H'
section
variable {K : PySem.W.Frag} {cls : Nat → Addr} {H H' H1 : Hp} {S S1 : Sto} {Q : VK} {q : QD} {x : XD} {E : XK} {d e : D} {v w : V} {a : Addr}
theorem QL.mono (t : TK K H H') (h : QL K cls H q Q) : QL K cls H' q Q := fun d S v H2 t2 => h d S v H2 (t.trans t2)
theorem XL.mono (t : TK K H H') (h : XL K cls H x E) : XL K cls H' x E := fun d S c a H2 t2 => h d S c a H2 (t.trans t2)
/-- the answer stands in the same heap -/
theorem QL.here (h : QL K cls H q Q) (rs : RS K H cls S) (r : RV K H d v) (hq : q d S) : Q v H := h d S v H .refl rs r hq
theorem QL.tup (h : QL K cls H q Q) (rs : RS K H cls S) {xs : List D} {vs : List V} (r : RP K H xs vs) (hq : q (.tup xs) S) {p : Addr} (hp : H p = none) : Q (.ref p) (upd H p (.tup vs)) :=
  h _ S _ _ (tk_new hp) (rs.new hp) (RV.ofTup (.inl (.inl upd_same)) (r.mono (tk_new hp))) hq
theorem QL.lst (h : QL K cls H q Q) (rs : RS K H cls S) {xs : List D} {vs : List V} (r : RP K H xs vs) (hq : newL xs S q) {p : Addr} (hp : H p = none) : Q (.ref p) (upd H p (.lst vs)) :=
  h _ _ _ _ (tk_new hp) (rs.newS (o := .lst xs) hp ⟨vs, upd_same, r.mono (tk_new hp)⟩) RV.ref' (hq p (rs.free hp))
theorem RS.lstOf (rs : RS K H cls S) {xs : List D} (h : lstOf S a = some xs) : S a = some (.lst xs) ∧ ∃ vs, H a = some (.lst vs) ∧ RP K H xs vs := by
  unfold DL.lstOf at h
  split at h
  · rename_i ys e
    cases h
    exact ⟨e, rs a _ e⟩
  · cases h
theorem RS.seqD (rs : RS K H cls S) (r : RV K H d v) {xs : List D} (h : seqD d S = some xs) : ∃ a vs, v = .ref a ∧ (SqL K H a vs ∨ SqT K H a vs) ∧ RP K H xs vs := by
  cases d with
  | tup ds =>
    cases h
    obtain ⟨a, vs, rfl, q, r⟩ := r.tup
    exact ⟨a, vs, rfl, .inr q, r⟩
  | fl ds =>
    cases h
    obtain ⟨a, vs, rfl, q, r⟩ := r.flE
    exact ⟨a, vs, rfl, .inl q.sq, r⟩
  | ref a =>
    cases r.refE
    unfold DL.seqD at h
    simp only at h
    split at h
    · rename_i ys e
      cases h
      obtain ⟨vs, e1, r1⟩ := rs a _ e
      exact ⟨a, vs, rfl, .inl (.inl (.inl e1)), r1⟩
    · rename_i ys e
      cases h
      obtain ⟨vs, e1, r1⟩ := rs a _ e
      exact ⟨a, vs, rfl, .inl (.inl e1), r1⟩
    · cases h
  | _ => cases h
/-- .. of a list: a list -/
theorem RS.seqL (rs : RS K H cls S) (r : RV K H d v) {xs : List D} (h : DL.seqD d S = some xs) (ne : d ≠ .tup xs) : ∃ a vs, v = .ref a ∧ SqL K H a vs ∧ RP K H xs vs := by
  cases d with
  | tup ds => cases h; exact absurd rfl ne
  | fl ds =>
    cases h
    obtain ⟨a, vs, rfl, q, r⟩ := r.flE
    exact ⟨a, vs, rfl, q.sq, r⟩
  | ref a =>
    cases r.refE
    unfold DL.seqD at h
    simp only at h
    split at h
    · rename_i ys e
      cases h
      obtain ⟨vs, e1, r1⟩ := rs a _ e
      exact ⟨a, vs, rfl, .inl (.inl e1), r1⟩
    · rename_i ys e
      cases h
      obtain ⟨vs, e1, r1⟩ := rs a _ e
      exact ⟨a, vs, rfl, .inl e1, r1⟩
    · cases h
  | _ => cases h
theorem RS.dkOf (rs : RS K H cls S) {kvs : List (Key × D)} (h : dkOf S a = some kvs) : ∃ ws, Rd H a (.dK ws) ∧ KP K H kvs ws := by
  unfold DL.dkOf at h
  split at h
  · rename_i ys e
    cases h
    obtain ⟨vs, e1, r1⟩ := rs a _ e
    exact ⟨vs, .inl e1, r1⟩
  · rename_i ys e
    cases h
    exact rs a _ e
  · cases h
theorem keyD_rv {k : Key} (h : keyD d = some k) (r : RV K H d v) : v = kV k := by
  cases d with
  | int i => cases h; exact r.intE
  | str i => cases h; exact r.strE
  | _ => cases h
/-- a flat datum as a value -/
def toV : D → V
  | .non => .non
  | .bl b => .bl b
  | .int i => .int i
  | .str x => .str x
  | _ => .non
theorem flat_rv (f : flatD d = true) (r : RV K H d v) : v = toV d ∧ flatV v = true := by
  cases d with
  | non => cases r.nonE; exact ⟨rfl, rfl⟩
  | bl b => cases r.blE; exact ⟨rfl, rfl⟩
  | int i => cases r.intE; exact ⟨rfl, rfl⟩
  | str x => cases r.strE; exact ⟨rfl, rfl⟩
  | _ => cases f
theorem eqF_rv (f : flatD d = true) (g : flatD e = true) (r : RV K H d v) (r' : RV K H e w) : eqV v w = eqF d e := by
  rw [(flat_rv f r).1, (flat_rv g r').1]
  cases d <;> cases f <;> cases e <;> cases g <;> rfl
theorem flat_all : ∀ {xs : List D} {vs : List V}, RP K H xs vs → xs.all flatD = true → vs.all flatV = true
  | _, _, .nil, _ => rfl
  | _, _, .cons r t, h => by
    rw [List.all_cons, Bool.and_eq_true] at h ⊢
    exact ⟨(flat_rv h.1 r).2, flat_all t h.2⟩
theorem memF_rv (f : flatD d = true) (r : RV K H d v) : ∀ {xs : List D} {vs : List V}, RP K H xs vs → xs.all flatD = true → inV v vs = memF d xs
  | _, _, .nil, _ => rfl
  | _, _, .cons r1 t, h => by
    rw [List.all_cons, Bool.and_eq_true] at h
    have ih := memF_rv f r t h.2
    unfold inV memF at ih ⊢
    rw [List.any_cons, List.any_cons, ih, eqF_rv h.1 f r1 r]
mutual
theorem dp_rv (rs : RS K H cls S) : ∀ {d : D} {p : PyData} {v : V}, DP S d p → RV K H d v → Dp K H v p
  | _, _, _, .non, r => by cases r.nonE; exact .non
  | _, _, _, .bl b, r => by cases r.blE; exact .bl b
  | _, _, _, .int i, r => by cases r.intE; exact .int i
  | _, _, _, .str x, r => by cases r.strE; exact .str x
  | _, _, _, .tup h, r => by
    obtain ⟨a, vs, rfl, q, r⟩ := r.tup
    exact .tup q (dps_rv rs h r)
  | _, _, _, .fl h, r => by
    obtain ⟨a, vs, rfl, q, r⟩ := r.flE
    exact .lst q.sq (dps_rv rs h r)
  | _, _, _, .lst e h, r => by
    cases r.refE
    obtain ⟨vs, e1, r1⟩ := rs _ _ e
    exact .lst (.inl (.inl e1)) (dps_rv rs h r1)
theorem dps_rv (rs : RS K H cls S) : ∀ {ds : List D} {ps : List PyData} {vs : List V}, DPs S ds ps → RP K H ds vs → DpAll K H vs ps
  | _, _, _, .nil, r => by cases r; exact .nil
  | _, _, _, .cons h t, r => by
    cases r with
    | cons r1 r2 => exact .cons (dp_rv rs h r1) (dps_rv rs t r2)
end
theorem lookD_rv {κ : Type} [DecidableEq κ] {k : κ} : ∀ {kvs : List (κ × D)} {ws : List (κ × V)}, KP K H kvs ws →
    (∀ d, lookD kvs k = some d → ∃ v, valV ws k = some v ∧ RV K H d v) ∧ (lookD kvs k = none → valV ws k = none)
  | _, _, .nil => ⟨fun _ h => (by cases h), fun _ => rfl⟩
  | _, _, .cons (a := p) (b := w) ⟨e, r⟩ t => by
    have ih := lookD_rv (k := k) t
    unfold lookD valV at ih ⊢
    rw [List.find?_cons, List.find?_cons, ← e]
    by_cases h : p.1 = k
    · rw [decide_eq_true h]
      refine ⟨fun d hd => ?_, fun hd => (by cases hd)⟩
      cases hd
      exact ⟨_, rfl, r⟩
    · rw [decide_eq_false h]
      exact ih
theorem look_some {κ : Type} [DecidableEq κ] {k : κ} {kvs : List (κ × D)} {ws : List (κ × V)} (r : KP K H kvs ws) : (valV ws k).isSome = (lookD kvs k).isSome := by
  obtain ⟨h1, h2⟩ := lookD_rv (k := k) r
  cases h : lookD kvs k with
  | none => rw [h2 h]; rfl
  | some d => obtain ⟨v, e, _⟩ := h1 d h; rw [e]; rfl
theorem any_rv {κ : Type} [DecidableEq κ] {k : κ} : ∀ {kvs : List (κ × D)} {ws : List (κ × V)}, KP K H kvs ws → (kvs.any fun kv => decide (kv.1 = k)) = ws.any fun kv => decide (kv.1 = k)
  | _, _, .nil => rfl
  | _, _, .cons ⟨e, _⟩ t => by rw [List.any_cons, List.any_cons, any_rv t, e]
theorem putD_rv {κ : Type} [DecidableEq κ] {k : κ} (r : RV K H d v) {kvs : List (κ × D)} {ws : List (κ × V)} (h : KP K H kvs ws) : KP K H (putD kvs k d) (putK ws k v) := by
  have mp : ∀ {kvs : List (κ × D)} {ws : List (κ × V)}, KP K H kvs ws → KP K H (kvs.map (fun kv => if kv.1 = k then (kv.1, d) else kv)) (ws.map (fun kv => if kv.1 = k then (kv.1, v) else kv)) := by
    intro kvs ws h
    induction h with
    | nil => exact .nil
    | cons p t ih =>
      rename_i a b _ _
      refine .cons ?_ ih
      show (if a.1 = k then (a.1, d) else a).1 = (if b.1 = k then (b.1, v) else b).1 ∧ RV K H (if a.1 = k then (a.1, d) else a).2 (if b.1 = k then (b.1, v) else b).2
      by_cases e : a.1 = k
      · rw [if_pos e, if_pos (p.1.symm.trans e)]
        exact ⟨p.1, r⟩
      · rw [if_neg e, if_neg (fun z => e (p.1.trans z))]
        exact p
  unfold putD putK
  rw [any_rv h]
  split
  · exact mp h
  · exact P.app h (.cons ⟨rfl, r⟩ .nil)
theorem mergeD_rv {more : List (Key × D)} {ms : List (Key × V)} (hm : KP K H more ms) : ∀ {kvs : List (Key × D)} {ws : List (Key × V)}, KP K H kvs ws → KP K H (mergeD kvs more) (mergeK ws ms) := by
  induction hm with
  | nil => exact fun h => h
  | cons p t ih =>
    rename_i a b _ _
    intro kvs ws h
    have h2 := putD_rv (k := a.1) p.2 h
    rw [show putK ws a.1 b.2 = putK ws b.1 b.2 by rw [p.1]] at h2
    exact ih h2
theorem ints_rv : ∀ {xs : List D} {vs : List V} {ns : List Int}, RP K H xs vs → intsD xs = some ns → vs = ns.map V.int
  | _, _, _, .nil, h => by cases h; rfl
  | _, _, ns, .cons (a := d) r t, h => by
    cases d with
    | int i =>
      unfold intsD at h
      obtain ⟨ms, e, rfl⟩ := Option.map_eq_some_iff.mp h
      rw [ints_rv t e, r.intE]
      rfl
    | _ => cases h
theorem bls_rv : ∀ {xs : List D} {vs : List V} {ns : List Bool}, RP K H xs vs → blsD xs = some ns → vs = ns.map V.bl
  | _, _, _, .nil, h => by cases h; rfl
  | _, _, ns, .cons (a := d) r t, h => by
    cases d with
    | bl i =>
      unfold blsD at h
      obtain ⟨ms, e, rfl⟩ := Option.map_eq_some_iff.mp h
      rw [bls_rv t e, r.blE]
      rfl
    | _ => cases h
theorem atI_rv {xs : List D} {vs : List V} {j : Int} (r : RP K H xs vs) (h : atI xs j = some d) : ∃ v, atI vs j = some v ∧ RV K H d v := by
  unfold atI at h ⊢
  rw [← P.len r]
  cases e : ixN xs.length j with
  | none => rw [e] at h; cases h
  | some n =>
    rw [e] at h
    exact P.get r h
theorem cut_rv {xs : List D} {vs : List V} {lo hi : Option Int} (r : RP K H xs vs) : RP K H (cutD xs lo hi) (cutV vs lo hi) := by
  unfold cutD cutV
  rw [← P.len r]
  exact P.take _ (P.drop _ r)
theorem isEmpty_rv {α β : Type} {F : α → β → Prop} {xs : List α} {ys : List β} (h : Paired F xs ys) : xs.isEmpty = ys.isEmpty := by
  cases h <;> rfl
theorem strs_rv : ∀ {xs : List D} {vs : List V} {ns : List Str}, RP K H xs vs → strsD xs = some ns → vs = ns.map V.str
  | _, _, _, .nil, h => by cases h; rfl
  | _, _, ns, .cons (a := d) r t, h => by
    cases d with
    | str i =>
      unfold strsD at h
      obtain ⟨ms, e, rfl⟩ := Option.map_eq_some_iff.mp h
      rw [strs_rv t e, r.strE]
      rfl
    | _ => cases h
theorem pairs_rv : ∀ {xs : List D} {vs : List V} {kvs : List (Key × D)}, RP K H xs vs → pairsD xs = some kvs →
    ∃ (ps : List Addr) (ws : List (Key × V)), vs = ps.map V.ref ∧ Paired (fun p kv => SqT K H p [kV kv.1, kv.2]) ps ws ∧ KP K H kvs ws
  | _, _, _, .nil, h => by cases h; exact ⟨[], [], rfl, .nil, .nil⟩
  | _, _, kvs, .cons (a := d) (b := v) r t, h => by
    unfold pairsD at h
    split at h
    · rename_i e; cases e
    · rename_i k x rest e
      cases e
      split at h
      · rename_i kk l hk hl
        cases h
        obtain ⟨ps, ws, rfl, pp, kp⟩ := pairs_rv t hl
        obtain ⟨a, us, rfl, sq, rp⟩ := r.tup
        cases rp with
        | cons r1 t1 =>
          cases t1 with
          | cons r2 t2 =>
            cases t2
            rw [keyD_rv hk r1] at sq
            exact ⟨a :: ps, (kk, _) :: ws, rfl, .cons sq pp, .cons ⟨rfl, r2⟩ kp⟩
      · cases h
    · cases h
end

/-! ### the rules -/
section
variable {X : Cx} {cls : Nat → Addr} {H : Hp} {S : Sto} {d e : D} {v w : V}
/-- truth -/
theorem tru_rv {k : Bool → Prop} (rs : RS X.K H cls S) (r : RV X.K H d v) (h : truD d S k) : ∃ b, TruV X.K v H b ∧ k b := by
  cases d with
  | non => cases r.nonE; exact ⟨false, rfl, h⟩
  | bl b => cases r.blE; exact ⟨b, rfl, h⟩
  | int i => cases r.intE; exact ⟨_, rfl, h⟩
  | str x => cases r.strE; exact ⟨_, ⟨h.1, rfl⟩, h.2⟩
  | tup xs =>
    obtain ⟨a, vs, rfl, q, r⟩ := r.tup
    exact ⟨_, .inr (.inl ⟨vs, q, rfl⟩), by rw [← isEmpty_rv r]; exact h⟩
  | fl xs =>
    obtain ⟨a, vs, rfl, q, r⟩ := r.flE
    exact ⟨_, .inl ⟨vs, q.sq, rfl⟩, by rw [← isEmpty_rv r]; exact h⟩
  | ref a =>
    cases r.refE
    unfold truD at h
    simp only at h
    split at h
    · rename_i xs q
      obtain ⟨vs, e1, r1⟩ := rs a _ q
      exact ⟨_, .inl ⟨vs, .inl (.inl e1), rfl⟩, by rw [← isEmpty_rv r1]; exact h⟩
    · rename_i xs q
      obtain ⟨vs, e1, r1⟩ := rs a _ q
      exact ⟨_, .inr (.inr ⟨vs, e1, rfl⟩), by rw [← isEmpty_rv r1]; exact h⟩
    · exact h.elim

/-- a two-place rule over data -/
def OpL (X : Cx) (cls : Nat → Addr) (f : Value → Value → Sem Value) (m : D → D → Sto → QD → Prop) : Prop :=
  ∃ r : R2, OpR X f r ∧ ∀ (d e : D) (v w : V) (S : Sto) (H : Hp) (q : QD) (Q : VK), RS X.K H cls S → RV X.K H d v → RV X.K H e w → m d e S q → QL X.K cls H q Q → r v w H Q
theorem opl_or {f : Value → Value → Sem Value} {m m' : D → D → Sto → QD → Prop} (h : OpL X cls f m) (h' : OpL X cls f m') : OpL X cls f (fun d e S q => m d e S q ∨ m' d e S q) := by
  obtain ⟨r, hr, k⟩ := h
  obtain ⟨r', hr', k'⟩ := h'
  exact ⟨_, hr.or hr', fun d e v w S H q Q a b c m z => m.elim (fun m => .inl (k d e v w S H q Q a b c m z)) fun m => .inr (k' d e v w S H q Q a b c m z)⟩
theorem opl_imp {f : Value → Value → Sem Value} {m m' : D → D → Sto → QD → Prop} (h : OpL X cls f m) (i : ∀ d e S q, m' d e S q → m d e S q) : OpL X cls f m' := by
  obtain ⟨r, hr, k⟩ := h
  exact ⟨r, hr, fun d e v w S H q Q a b c m z => k d e v w S H q Q a b c (i _ _ _ _ m) z⟩
theorem opl_none {f : Value → Value → Sem Value} : OpL X cls f (fun _ _ _ _ => False) := ⟨fun _ _ _ _ => False, fun _ _ _ _ _ _ _ _ _ _ _ _ h => h.elim, fun _ _ _ _ _ _ _ _ _ _ _ h => h.elim⟩
/-- ints in, a flat answer out -/
theorem opl_ints {f : Value → Value → Sem Value} {C : Int → Int → Prop} {g : Int → Int → V} {g' : Int → Int → D} (ho : OpR X f (rI C g)) (hg : ∀ i j H, RV X.K H (g' i j) (g i j)) :
    OpL X cls f (fun d e S q => ∃ i j, d = .int i ∧ e = .int j ∧ C i j ∧ q (g' i j) S) :=
  ⟨_, ho, fun d e v w S H q Q rs r r' m z => by
    obtain ⟨i, j, rfl, rfl, c, h⟩ := m
    exact ⟨i, j, r.intE, r'.intE, c, z.here rs (hg i j H) h⟩⟩
theorem opl_ints0 {f : Value → Value → Sem Value} {g : Int → Int → V} {g' : Int → Int → D} (ho : OpR X f (rI0 g)) (hg : ∀ i j H, RV X.K H (g' i j) (g i j)) :
    OpL X cls f (fun d e S q => ∃ i j, d = .int i ∧ e = .int j ∧ q (g' i j) S) :=
  ⟨_, ho, fun d e v w S H q Q rs r r' m z => by
    obtain ⟨i, j, rfl, rfl, h⟩ := m
    exact ⟨i, j, r.intE, r'.intE, z.here rs (hg i j H) h⟩⟩
theorem opl_strs {f : Value → Value → Sem Value} {g : Str → Str → Bool} (ho : OpR X f (fun x y H Q => ∃ i j, x = .str i ∧ y = .str j ∧ Q (.bl (g i j)) H)) :
    OpL X cls f (fun d e S q => ∃ i j, d = .str i ∧ e = .str j ∧ q (.bl (g i j)) S) :=
  ⟨_, ho, fun d e v w S H q Q rs r r' m z => by
    obtain ⟨i, j, rfl, rfl, h⟩ := m
    exact ⟨i, j, r.strE, r'.strE, z.here rs RV.bl' h⟩⟩
theorem opl_bin (op : Operator) : OpL X cls (binaryOp op) (binD op) := by
  cases op with
  | Add =>
    have hs : OpL X cls (binaryOp .Add) (fun d e S q => ∃ x y, d = .str x ∧ e = .str y ∧ x.length + y.length ≤ sizeLine ∧ q (.str (x ++ y)) S) :=
      ⟨_, op_add_str, fun d e v w S H q Q rs r r' m z => by
        obtain ⟨i, j, rfl, rfl, c, h⟩ := m
        exact ⟨i, j, r.strE, r'.strE, c, z.here rs RV.str' h⟩⟩
    have ht : OpL X cls (binaryOp .Add) (fun d e S q => ∃ x y, d = .tup x ∧ e = .tup y ∧ x.length + y.length ≤ sizeLine ∧ q (.tup (x ++ y)) S) :=
      ⟨_, op_catA, fun d e v w S H q Q rs r r' m z => by
        obtain ⟨xs, ys, rfl, rfl, c, h⟩ := m
        obtain ⟨a, vs, rfl, q1, r1⟩ := r.tup
        obtain ⟨b, ws, rfl, q2, r2⟩ := r'.tup
        refine ⟨a, b, vs, ws, rfl, rfl, q1, q2, by rw [← P.len r1, ← P.len r2]; exact c, ?_⟩
        have rr := P.app r1 r2
        refine ⟨fun e => ?_, fun _ e => ?_, fun _ _ p hp => z.tup rs rr h hp⟩
        · subst e
          exact z.here rs (RV.ofTup q2 (by simpa using rr)) h
        · subst e
          exact z.here rs (RV.ofTup q1 (by simpa using rr)) h⟩
    have hl : OpL X cls (binaryOp .Add) (fun d e S q => ∃ a b xs ys, d = .ref a ∧ e = .ref b ∧ lstOf S a = some xs ∧ lstOf S b = some ys ∧ xs.length + ys.length ≤ sizeLine ∧ newL (xs ++ ys) S q) :=
      ⟨_, op_cat, fun d e v w S H q Q rs r r' m z => by
        obtain ⟨a, b, xs, ys, rfl, rfl, h1, h2, c, h⟩ := m
        cases r.refE
        cases r'.refE
        obtain ⟨_, vs, e1, r1⟩ := rs.lstOf h1
        obtain ⟨_, ws, e2, r2⟩ := rs.lstOf h2
        exact ⟨a, b, vs, ws, rfl, rfl, e1, e2, by rw [← P.len r1, ← P.len r2]; exact c, fun p hp => z.lst rs (P.app r1 r2) h hp⟩⟩
    refine opl_imp (opl_or (opl_ints0 op_add fun _ _ _ => RV.int') (opl_or hs (opl_or ht hl))) fun d e S q h => ?_
    unfold binD at h
    simp only at h
    split at h
    · exact .inl ⟨_, _, rfl, rfl, h⟩
    · exact .inr (.inl ⟨_, _, rfl, rfl, h⟩)
    · exact .inr (.inr (.inl ⟨_, _, rfl, rfl, h⟩))
    · obtain ⟨xs, ys, h⟩ := h
      exact .inr (.inr (.inr ⟨_, _, xs, ys, rfl, rfl, h⟩))
    · exact h.elim
  | Sub =>
    refine opl_imp (opl_ints0 op_sub fun _ _ _ => RV.int') fun d e S q h => ?_
    unfold binD at h
    simp only at h
    split at h
    · exact ⟨_, _, rfl, rfl, h⟩
    · exact h.elim
  | Mult =>
    have hl : OpL X cls (binaryOp .Mult) (fun d e S q => ∃ a k xs, d = .ref a ∧ e = .int k ∧ lstOf S a = some xs ∧ -(2 ^ 63) ≤ k ∧ k < 2 ^ 63 ∧ xs.length * k.toNat ≤ sizeLine ∧ newL (List.replicate k.toNat xs).flatten S q) :=
      ⟨_, op_rep, fun d e v w S H q Q rs r r' m z => by
        obtain ⟨a, k, xs, rfl, rfl, h1, c1, c2, c3, h⟩ := m
        cases r.refE
        cases r'.intE
        obtain ⟨_, vs, e1, r1⟩ := rs.lstOf h1
        refine ⟨a, k, vs, rfl, rfl, e1, c1, c2, by rw [← P.len r1]; exact c3, fun p hp => z.lst rs (P.flat r1) h hp⟩⟩
    refine opl_imp (opl_or (opl_ints op_mul fun _ _ _ => RV.int') (opl_or (opl_ints op_mulW fun _ _ _ => RV.int') hl)) fun d e S q h => ?_
    unfold binD at h
    simp only at h
    split at h
    · obtain ⟨h1 | h1, h⟩ := h
      · exact .inl ⟨_, _, rfl, rfl, h1, h⟩
      · exact .inr (.inl ⟨_, _, rfl, rfl, h1, h⟩)
    · obtain ⟨xs, h⟩ := h
      exact .inr (.inr ⟨_, _, xs, rfl, rfl, h⟩)
    · exact h.elim
  | FloorDiv =>
    refine opl_imp (opl_ints op_fdivW fun _ _ _ => RV.int') fun d e S q h => ?_
    unfold binD at h
    simp only at h
    split at h
    · exact ⟨_, _, rfl, rfl, h⟩
    · exact h.elim
  | Mod =>
    refine opl_imp (opl_ints op_mod fun _ _ _ => RV.int') fun d e S q h => ?_
    unfold binD at h
    simp only at h
    split at h
    · exact ⟨_, _, rfl, rfl, h⟩
    · exact h.elim
  | Pow =>
    refine opl_imp (opl_ints op_pow fun _ _ _ => RV.int') fun d e S q h => ?_
    unfold binD at h
    simp only at h
    split at h
    · exact ⟨_, _, rfl, rfl, h⟩
    · exact h.elim
  | _ => exact opl_none

theorem opl_eq (hu : X.A.units + 64 < cLine) : OpL X cls (compareOp .Eq) (fun d e S q => ∃ p r, DP S d p ∧ DP S e r ∧ SeqAt.shaped p = true ∧ SeqAt.shaped r = true ∧ q (.bl (PyData.eqv p r)) S) :=
  ⟨_, op_eqD hu, fun d e v w S H q Q rs r r' m z => by
    obtain ⟨p, t, h1, h2, c1, c2, h⟩ := m
    exact ⟨p, t, dp_rv rs h1 r, dp_rv rs h2 r', c1, c2, z.here rs RV.bl' h⟩⟩
theorem opl_ne (hu : X.A.units + 64 < cLine) : OpL X cls (compareOp .NotEq) (fun d e S q => ∃ p r, DP S d p ∧ DP S e r ∧ SeqAt.shaped p = true ∧ SeqAt.shaped r = true ∧ q (.bl (!PyData.eqv p r)) S) :=
  ⟨_, op_neD hu, fun d e v w S H q Q rs r r' m z => by
    obtain ⟨p, t, h1, h2, c1, c2, h⟩ := m
    exact ⟨p, t, dp_rv rs h1 r, dp_rv rs h2 r', c1, c2, z.here rs RV.bl' h⟩⟩
theorem eqf_is {d e : D} {k : Bool → Prop} {S : Sto} (h : eqD d e S k) : (∃ i j, d = .int i ∧ e = .int j ∧ k (decide (i = j))) ∨ (∃ x y, d = .str x ∧ e = .str y ∧ k (decide (x = y))) ∨
    (∃ x y, d = .bl x ∧ e = .bl y ∧ k (decide (x = y))) ∨ ∃ p q, DP S d p ∧ DP S e q ∧ SeqAt.shaped p = true ∧ SeqAt.shaped q = true ∧ k (PyData.eqv p q) := by
  unfold eqD at h
  split at h
  · exact .inl ⟨_, _, rfl, rfl, h⟩
  · exact .inr (.inl ⟨_, _, rfl, rfl, h⟩)
  · exact .inr (.inr (.inl ⟨_, _, rfl, rfl, h⟩))
  · exact .inr (.inr (.inr h))
theorem opl_flat {f : Value → Value → Sem Value} {r : R2} (ho : OpR X f r) {g : V → V → Bool} (hr : ∀ x y H Q, scal x y = true → Q (.bl (g x y)) H → r x y H Q) :
    OpL X cls f (fun d e S q => (∃ i j, d = .int i ∧ e = .int j ∧ q (.bl (g (.int i) (.int j))) S) ∨ (∃ i j, d = .str i ∧ e = .str j ∧ q (.bl (g (.str i) (.str j))) S) ∨ ∃ i j, d = .bl i ∧ e = .bl j ∧ q (.bl (g (.bl i) (.bl j))) S) :=
  ⟨_, ho, fun d e v w S H q Q rs r r' m z => by
    rcases m with ⟨i, j, rfl, rfl, h⟩ | ⟨i, j, rfl, rfl, h⟩ | ⟨i, j, rfl, rfl, h⟩
    · rw [r.intE, r'.intE]; exact hr _ _ _ _ rfl (z.here rs RV.bl' h)
    · rw [r.strE, r'.strE]; exact hr _ _ _ _ rfl (z.here rs RV.bl' h)
    · rw [r.blE, r'.blE]; exact hr _ _ _ _ rfl (z.here rs RV.bl' h)⟩
theorem opl_in (hu : X.A.units + 64 < cLine) (neg : Bool) : OpL X cls (compareOp (if neg then .NotIn else .In)) (fun d e S q => inD neg d e S fun k => q (.bl k) S) := by
  have hu1 : X.A.units + 1 < cLine := Nat.lt_of_le_of_lt (Nat.add_le_add_left (by decide : 1 ≤ 64) _) hu
  have h1 : OpL X cls (compareOp (if neg then .NotIn else .In)) (fun d e S q => ∃ c z, d = .str ⟨#[c]⟩ ∧ e = .str z ∧ q (.bl (neg != decide (c ∈ z.cps.toList))) S) := by
    cases neg with
    | false => exact ⟨_, op_in_sign, fun d e v w S H q Q rs r r' m z => by
        obtain ⟨c, y, rfl, rfl, h⟩ := m
        rw [Bool.false_bne] at h
        exact ⟨c, y, r.strE, r'.strE, z.here rs RV.bl' h⟩⟩
    | true => exact ⟨_, op_notIn_sign, fun d e v w S H q Q rs r r' m z => by
        obtain ⟨c, y, rfl, rfl, h⟩ := m
        rw [Bool.true_bne] at h
        exact ⟨c, y, r.strE, r'.strE, z.here rs RV.bl' h⟩⟩
  have h2 : OpL X cls (compareOp (if neg then .NotIn else .In)) (fun d e S q => ∃ x z, d = .str x ∧ e = .str z ∧ q (.bl (neg != !(Builtin.Str.occurrences z x 0 z.length 1).isEmpty)) S) := by
    cases neg with
    | false => exact ⟨_, op_in_str, fun d e v w S H q Q rs r r' m z => by
        obtain ⟨c, y, rfl, rfl, h⟩ := m
        rw [Bool.false_bne] at h
        exact ⟨c, y, r.strE, r'.strE, z.here rs RV.bl' h⟩⟩
    | true => exact ⟨_, L2.op_notIn_str, fun d e v w S H q Q rs r r' m z => by
        obtain ⟨c, y, rfl, rfl, h⟩ := m
        rw [Bool.true_bne] at h
        exact ⟨c, y, r.strE, r'.strE, z.here rs RV.bl' h⟩⟩
  have h3 : OpL X cls (compareOp (if neg then .NotIn else .In)) (fun d e S q => ∃ xs, seqD e S = some xs ∧ flatD d = true ∧ xs.all flatD = true ∧ q (.bl (neg != memF d xs)) S) := by
    cases neg with
    | false => exact ⟨_, op_in_seq, fun d e v w S H q Q rs r r' m z => by
        obtain ⟨xs, h1, f, g, h⟩ := m
        obtain ⟨a, vs, rfl, sq, rp⟩ := rs.seqD r' h1
        rw [Bool.false_bne, ← memF_rv f r rp g] at h
        exact ⟨a, vs, rfl, sq, (flat_rv f r).2, flat_all rp g, z.here rs RV.bl' h⟩⟩
    | true => exact ⟨_, op_notIn_seq, fun d e v w S H q Q rs r r' m z => by
        obtain ⟨xs, h1, f, g, h⟩ := m
        obtain ⟨a, vs, rfl, sq, rp⟩ := rs.seqD r' h1
        rw [Bool.true_bne, ← memF_rv f r rp g] at h
        exact ⟨a, vs, rfl, sq, (flat_rv f r).2, flat_all rp g, z.here rs RV.bl' h⟩⟩
  have h4 : OpL X cls (compareOp (if neg then .NotIn else .In)) (fun d e S q => ∃ a kvs k, e = .ref a ∧ dkOf S a = some kvs ∧ keyD d = some k ∧ q (.bl (neg != (lookD kvs k).isSome)) S) := by
    cases neg with
    | false =>
      have ho : OpR X (compareOp .In) (fun y x H Q => ∃ a o, x = .ref a ∧ DGet H a y o ∧ Q (.bl o.isSome) H) := fun pins s σ H y x u v Q I ry rx h => by
        obtain ⟨a, o, rfl, g, q⟩ := h
        obtain rfl : v = Value.ref a := rx
        exact d_in hu1 I g ry fun s3 I3 => ⟨.bl o.isSome, H, I3, rfl, q⟩
      exact ⟨_, ho, fun d e v w S H q Q rs r r' m z => by
        obtain ⟨a, kvs, k, rfl, h1, hk, h⟩ := m
        cases r'.refE
        obtain ⟨ws, rd, kp⟩ := rs.dkOf h1
        rw [Bool.false_bne, ← look_some kp] at h
        exact ⟨a, valV ws k, rfl, .inl ⟨ws, k, rd, keyD_rv hk r, rfl⟩, z.here rs RV.bl' h⟩⟩
    | true =>
      have ho : OpR X (compareOp .NotIn) (fun y x H Q => ∃ a o, x = .ref a ∧ DGet H a y o ∧ Q (.bl (!o.isSome)) H) := fun pins s σ H y x u v Q I ry rx h => by
        obtain ⟨a, o, rfl, g, q⟩ := h
        obtain rfl : v = Value.ref a := rx
        exact d_notIn hu1 I g ry fun s3 I3 => ⟨.bl (!o.isSome), H, I3, rfl, q⟩
      exact ⟨_, ho, fun d e v w S H q Q rs r r' m z => by
        obtain ⟨a, kvs, k, rfl, h1, hk, h⟩ := m
        cases r'.refE
        obtain ⟨ws, rd, kp⟩ := rs.dkOf h1
        rw [Bool.true_bne, ← look_some kp] at h
        exact ⟨a, valV ws k, rfl, .inl ⟨ws, k, rd, keyD_rv hk r, rfl⟩, z.here rs RV.bl' h⟩⟩
  refine opl_imp (opl_or h1 (opl_or h2 (opl_or h3 h4))) fun d e S q h => ?_
  unfold inD at h
  split at h
  · split at h
    · rcases h with ⟨c, rfl, h⟩ | h
      · exact .inl ⟨c, _, rfl, rfl, h⟩
      · exact .inr (.inl ⟨_, _, rfl, rfl, h⟩)
    · exact h.elim
  · rcases h with ⟨xs, h⟩ | ⟨a, kvs, k, h⟩
    · exact .inr (.inr (.inl ⟨xs, h⟩))
    · exact .inr (.inr (.inr ⟨a, kvs, k, h⟩))
theorem isnon_rv (r : RV X.K H d v) : decide (v = .non) = nonD d := by
  cases d with
  | non => cases r.nonE; rfl
  | bl b => cases r.blE; rfl
  | int b => cases r.intE; rfl
  | str b => cases r.strE; rfl
  | tup b => obtain ⟨_, _, rfl, _⟩ := r.tup; rfl
  | fl b => obtain ⟨_, _, rfl, _⟩ := r.flE; rfl
  | ref b => cases r.refE; rfl
theorem flatB_rv {K : PySem.W.Frag} {H : Hp} {d : D} {v : V} (f : flatD d = true) (r : RV K H d v) : flatB v = true := by
  cases d with
  | non => cases r.nonE; rfl
  | bl b => cases r.blE; rfl
  | int i => cases r.intE; rfl
  | str x => cases r.strE; rfl
  | _ => cases f
theorem kp_flat {K : PySem.W.Frag} {H : Hp} {κ : Type} : ∀ {kvs : List (κ × D)} {ws ws' : List (κ × V)}, KP K H kvs ws → KP K H kvs ws' → (kvs.all fun p => flatD p.2) = true → ws = ws' ∧ ws.map (·.1) = kvs.map (·.1) ∧ ∀ p ∈ ws, flatB p.2 = true
  | _, _, _, .nil, .nil, _ => ⟨rfl, rfl, fun _ h => nomatch h⟩
  | _, _, _, .cons (a := p) (b := q) ⟨e, r⟩ t, .cons (b := q') ⟨e', r'⟩ t', h => by
    rw [List.all_cons, Bool.and_eq_true] at h
    obtain ⟨h1, h2, h3⟩ := kp_flat t t' h.2
    obtain ⟨k, u⟩ := q
    obtain ⟨k', u'⟩ := q'
    have e : p.1 = k := e
    have e' : p.1 = k' := e'
    have ev : u = u' := (flat_rv h.1 r).1.trans (flat_rv h.1 r').1.symm
    refine ⟨by rw [← e, ← e', ev, h1], by rw [List.map_cons, List.map_cons, h2, ← e], fun z hz => ?_⟩
    rcases List.mem_cons.mp hz with rfl | hz
    · exact flatB_rv h.1 r
    · exact h3 z hz
theorem opl_eqd (hu : X.A.units < cLine) : OpL X cls (compareOp .Eq) (fun d e S q => ∃ a b kvs, d = .ref a ∧ e = .ref b ∧ S a = some (.dk kvs) ∧ S b = some (.dk kvs) ∧ (kvs.map (·.1)).Nodup ∧ (kvs.all fun p => flatD p.2) = true ∧ q (.bl true) S) :=
  ⟨_, op_eq_dict hu, fun d e v w S H q Q rs r r' m z => by
    obtain ⟨a, b, kvs, rfl, rfl, e1, e2, nd, fl, h⟩ := m
    obtain ⟨ws, h1, k1⟩ := rs a _ e1
    obtain ⟨ws', h2, k2⟩ := rs b _ e2
    obtain ⟨rfl, hk, hf⟩ := kp_flat k1 k2 fl
    exact ⟨a, b, ws, r.refE, r'.refE, h1, h2, by rw [hk]; exact nd, hf, z.here rs RV.bl' h⟩⟩
theorem opl_cmp (hu : X.A.units + 64 < cLine) (op : CmpOp) : OpL X cls (compareOp op) (fun d e S q => cmpD op d e S fun k => q (.bl k) S) := by
  cases op with
  | Eq =>
    have base : OpL X cls (compareOp .Eq) (fun d e S q => eqD d e S fun k => q (.bl k) S) := by
      refine opl_imp (opl_or (opl_flat op_eq (g := fun x y => decide (x = y)) fun x y H Q h1 h2 => ⟨h1, h2⟩) (opl_eq hu)) fun d e S q h => ?_
      rcases eqf_is (k := fun k => q (.bl k) S) h with ⟨i, j, rfl, rfl, h2⟩ | ⟨i, j, rfl, rfl, h2⟩ | ⟨i, j, rfl, rfl, h2⟩ | h2
      · exact .inl (.inl ⟨i, j, rfl, rfl, by simpa using h2⟩)
      · exact .inl (.inr (.inl ⟨i, j, rfl, rfl, by simpa using h2⟩))
      · exact .inl (.inr (.inr ⟨i, j, rfl, rfl, by simpa using h2⟩))
      · exact .inr h2
    refine opl_imp (opl_or base (opl_eqd (Nat.lt_of_le_of_lt (Nat.le_add_right _ _) hu))) fun d e S q h => ?_
    unfold cmpD eqK at h
    simp only at h
    split at h
    · rcases h with h | ⟨kvs, h⟩
      · exact .inl h
      · exact .inr ⟨_, _, kvs, rfl, rfl, h⟩
    · exact .inl h
  | NotEq =>
    refine opl_imp (opl_or (opl_flat op_ne (g := fun x y => !decide (x = y)) fun x y H Q h1 h2 => ⟨h1, h2⟩) (opl_ne hu)) fun d e S q h => ?_
    rcases eqf_is (k := fun k => q (.bl (!k)) S) h with ⟨i, j, rfl, rfl, h2⟩ | ⟨i, j, rfl, rfl, h2⟩ | ⟨i, j, rfl, rfl, h2⟩ | h2
    · exact .inl (.inl ⟨i, j, rfl, rfl, by simpa using h2⟩)
    · exact .inl (.inr (.inl ⟨i, j, rfl, rfl, by simpa using h2⟩))
    · exact .inl (.inr (.inr ⟨i, j, rfl, rfl, by simpa using h2⟩))
    · exact .inr h2
  | Lt =>
    refine opl_imp (opl_or (opl_ints0 op_lt fun _ _ _ => RV.bl') (opl_strs op_lt_str)) fun d e S q h => ?_
    unfold cmpD at h
    simp only at h
    split at h
    · exact .inl ⟨_, _, rfl, rfl, h⟩
    · exact .inr ⟨_, _, rfl, rfl, h⟩
    · exact h.elim
  | LtE =>
    refine opl_imp (opl_or (opl_ints0 op_le fun _ _ _ => RV.bl') (opl_strs op_le_str)) fun d e S q h => ?_
    unfold cmpD at h
    simp only at h
    split at h
    · exact .inl ⟨_, _, rfl, rfl, h⟩
    · exact .inr ⟨_, _, rfl, rfl, h⟩
    · exact h.elim
  | Gt =>
    refine opl_imp (opl_or (opl_ints0 op_gt fun _ _ _ => RV.bl') (opl_strs op_gt_str)) fun d e S q h => ?_
    unfold cmpD at h
    simp only at h
    split at h
    · exact .inl ⟨_, _, rfl, rfl, h⟩
    · exact .inr ⟨_, _, rfl, rfl, h⟩
    · exact h.elim
  | GtE =>
    refine opl_imp (opl_or (opl_ints0 op_ge fun _ _ _ => RV.bl') (opl_strs op_ge_str)) fun d e S q h => ?_
    unfold cmpD at h
    simp only at h
    split at h
    · exact .inl ⟨_, _, rfl, rfl, h⟩
    · exact .inr ⟨_, _, rfl, rfl, h⟩
    · exact h.elim
  | Is =>
    have h1 : OpL X cls (compareOp .Is) (fun d e S q => e = .non ∧ q (.bl (nonD d)) S) := ⟨_, op_isN, fun d e v w S H q Q rs r r' m z => by
      obtain ⟨rfl, h⟩ := m
      rw [← isnon_rv r] at h
      exact ⟨r'.nonE, z.here rs RV.bl' h⟩⟩
    have h2 : OpL X cls (compareOp .Is) (fun d e S q => ∃ a b, d = .bl a ∧ e = .bl b ∧ q (.bl (decide (a = b))) S) := ⟨_, op_isBl, fun d e v w S H q Q rs r r' m z => by
      obtain ⟨a, b, rfl, rfl, h⟩ := m
      exact ⟨a, b, r.blE, r'.blE, z.here rs RV.bl' h⟩⟩
    refine opl_imp (opl_or h1 h2) fun d e S q h => ?_
    unfold cmpD isD at h
    simp only at h
    split at h
    · exact .inl ⟨rfl, h⟩
    · split at h
      · exact .inr ⟨_, _, rfl, rfl, h⟩
      · exact h.elim
    · exact h.elim
  | IsNot =>
    have h1 : OpL X cls (compareOp .IsNot) (fun d e S q => e = .non ∧ q (.bl (!nonD d)) S) := ⟨_, op_notN, fun d e v w S H q Q rs r r' m z => by
      obtain ⟨rfl, h⟩ := m
      rw [← isnon_rv r] at h
      exact ⟨r'.nonE, z.here rs RV.bl' h⟩⟩
    have h2 : OpL X cls (compareOp .IsNot) (fun d e S q => ∃ a b, d = .bl a ∧ e = .bl b ∧ q (.bl (!decide (a = b))) S) := ⟨_, op_notBl, fun d e v w S H q Q rs r r' m z => by
      obtain ⟨a, b, rfl, rfl, h⟩ := m
      exact ⟨a, b, r.blE, r'.blE, z.here rs RV.bl' h⟩⟩
    refine opl_imp (opl_or h1 h2) fun d e S q h => ?_
    unfold cmpD isD at h
    simp only at h
    split at h
    · exact .inl ⟨rfl, h⟩
    · split at h
      · exact .inr ⟨_, _, rfl, rfl, h⟩
      · exact h.elim
    · exact h.elim
  | In => exact opl_in hu false
  | NotIn => exact opl_in hu true

/-! ### subscripts -/
theorem ix_or_d (hu : X.A.units + 1 < cLine) {a b : Expr} {ta tb : TE} {pos : Pos} (ha : PE X a ta) (hb : PE X b tb) (hs : PlainIx b) :
    PE X (.Subscript a b pos) (tOp (fun x y H Q => rIx X.K x y H Q ∨ ∃ p v, x = .ref p ∧ DGet H p y (some v) ∧ Q v H) ta tb) := by
  refine ⟨fun pins s σ H Q I h => ?_⟩
  have h0 : ∀ (value slice : Expr) (pins : List (Addr × Obj)) (s : Shared) (σ : L2.St) (H : Hp) (x y : V) (v u : Value) (Q : VK), Inv X pins σ H s → RelV x v → RelV y u → (∃ p v, x = .ref p ∧ DGet H p y (some v) ∧ Q v H) →
      subscripted slice false v u = operate [v, u] (getItem v u) → wpAny (model X.prog X.w) X.A (subscriptTail value slice v u) (EP X pins σ Q) X.xe s := by
    intro value slice pins s σ H x y v u Q I rx ry q hs
    obtain ⟨p, z, rfl, g, q⟩ := q
    obtain rfl : v = Value.ref p := rx
    exact tail_any (dict_typeIs I g) PySem.F.slot_dict_getitem.lookup (d_getItem hu I g ry fun w' s3 I3 rw' => ⟨z, H, I3, rw', q⟩) hs
  exact (pe_ix (IxR.or ix_seq (fun value slice => h0 value slice)) ha hb hs).run pins s σ H Q I h
theorem idx_rv (rs : RS X.K H cls S) {q : QD} {Q : VK} (r : RV X.K H d v) (r' : RV X.K H e w) (h : idxD d e S q) (z : QL X.K cls H q Q) :
    rIx X.K v w H Q ∨ ∃ p u, v = .ref p ∧ DGet H p w (some u) ∧ Q u H := by
  unfold idxD at h
  split at h
  · obtain ⟨j, c, rfl, hl, ha, h⟩ := h
    exact .inl (.inr (.inr ⟨_, j, c, r.strE, r'.intE, hl, ha, z.here rs RV.str' h⟩))
  · rcases h with ⟨xs, j, u, h1, rfl, ha, h⟩ | ⟨a, kvs, k, u, rfl, h1, hk, hl, h⟩
    · obtain ⟨a, vs, rfl, sq, rp⟩ := rs.seqD r h1
      obtain ⟨y, e1, r1⟩ := atI_rv rp ha
      rcases sq with sq | sq
      · exact .inl (.inl ⟨a, vs, j, y, rfl, r'.intE, sq, e1, z.here rs r1 h⟩)
      · exact .inl (.inr (.inl ⟨a, vs, j, y, rfl, r'.intE, sq, e1, z.here rs r1 h⟩))
    · cases r.refE
      obtain ⟨ws, rd, kp⟩ := rs.dkOf h1
      obtain ⟨y, e1, r1⟩ := (lookD_rv kp).1 u hl
      exact .inr ⟨a, y, rfl, .inl ⟨ws, k, rd, keyD_rv hk r', e1.symm⟩, z.here rs r1 h⟩
theorem slc_rv (rs : RS X.K H cls S) {q : QD} {Q : VK} {lo hi : Option Int} (r : RV X.K H d v) (h : slcD d lo hi S q) (z : QL X.K cls H q Q) :
    rSlS v lo hi H Q ∨ rSlA X.K v lo hi H Q ∨ rSlL X.K v lo hi H Q := by
  unfold slcD at h
  split at h
  · exact .inl ⟨_, r.strE, h.1, z.here rs RV.str' h.2⟩
  · obtain ⟨a, vs, rfl, sq, rp⟩ := r.tup
    refine .inr (.inl ⟨a, vs, rfl, sq, fun e => ?_, fun e p hp => z.tup rs (cut_rv rp) h hp⟩)
    rename_i xs
    have e' : cutD xs lo hi = xs := by
      unfold cutD
      rw [P.len rp, e.1, e.2, List.drop_zero, Nat.sub_zero, ← P.len rp, List.take_length]
    rw [e'] at h
    exact z.here rs r h
  · obtain ⟨a, vs, rfl, sq, rp⟩ := r.flE
    exact .inr (.inr ⟨a, vs, rfl, sq.sq, fun p hp => z.lst rs (cut_rv rp) h hp⟩)
  · obtain ⟨xs, h1, h⟩ := h
    cases r.refE
    obtain ⟨_, vs, e1, rp⟩ := rs.lstOf h1
    exact .inr (.inr ⟨_, vs, rfl, .inl (.inl e1), fun p hp => z.lst rs (cut_rv rp) h hp⟩)
  · exact h.elim

/-! ### built-ins by values -/
def CallL (X : Cx) (cls : Nat → Addr) (f : Value) (m : List D → Sto → QD → Prop) : Prop :=
  ∃ r : List V → Hp → VK → Prop, CallR X f r ∧ ∀ (ds : List D) (vs : List V) (S : Sto) (H : Hp) (q : QD) (Q : VK), RS X.K H cls S → RP X.K H ds vs → m ds S q → QL X.K cls H q Q → r vs H Q
theorem cl_or {f : Value} {m m' : List D → Sto → QD → Prop} (h : CallL X cls f m) (h' : CallL X cls f m') : CallL X cls f (fun d S q => m d S q ∨ m' d S q) := by
  obtain ⟨r, hr, k⟩ := h
  obtain ⟨r', hr', k'⟩ := h'
  exact ⟨_, hr.or hr', fun d v S H q Q a b m z => m.elim (fun m => .inl (k d v S H q Q a b m z)) fun m => .inr (k' d v S H q Q a b m z)⟩
theorem cl_imp {f : Value} {m m' : List D → Sto → QD → Prop} (h : CallL X cls f m) (i : ∀ d S q, m' d S q → m d S q) : CallL X cls f m' := by
  obtain ⟨r, hr, k⟩ := h
  exact ⟨r, hr, fun d v S H q Q a b m z => k d v S H q Q a b (i _ _ _ m) z⟩
theorem cl_none {f : Value} : CallL X cls f (fun _ _ _ => False) := ⟨fun _ _ _ => False, fun _ _ _ _ _ _ _ _ _ h => h.elim, fun _ _ _ _ _ _ _ _ h => h.elim⟩
theorem rp1 {vs : List V} (r : RP X.K H [d] vs) : ∃ v, vs = [v] ∧ RV X.K H d v := by
  cases r with
  | cons r t => cases t; exact ⟨_, rfl, r⟩
theorem rp2 {vs : List V} (r : RP X.K H [d, e] vs) : ∃ v w, vs = [v, w] ∧ RV X.K H d v ∧ RV X.K H e w := by
  cases r with
  | cons r t =>
    cases t with
    | cons r' t => cases t; exact ⟨_, _, rfl, r, r'⟩
def bltV : Blt → Value
  | .len => .builtin "len" | .max2 => .builtin "max" | .min2 => .builtin "min" | .abs => .builtin "abs" | .int => .type "int" | .str => .type "str"
  | .list => .type "list" | .tuple => .type "tuple" | .dict => .type "dict" | .sum => .builtin "sum" | .max => .builtin "max" | .min => .builtin "min"
  | .all => .builtin "all" | .any => .builtin "any" | .sorted => .builtin "sorted" | _ => .none
theorem cl_blt (hc : X.calm = true) (b : Blt) : CallL X cls (bltV b) (bltD b) := by
  cases b with
  | len =>
    have h1 : CallL X cls (.builtin "len") (fun ds S q => ∃ d x, ds = [d] ∧ d = .str x ∧ x.length ≤ sizeLine ∧ q (.int x.length) S) := ⟨_, call_len_str, fun ds vs S H q Q rs r m z => by
      obtain ⟨d, x, rfl, rfl, hl, h⟩ := m
      obtain ⟨v, rfl, r1⟩ := rp1 r
      rw [r1.strE]
      exact ⟨x, rfl, hl, z.here rs RV.int' h⟩⟩
    have h2 : CallL X cls (.builtin "len") (fun ds S q => ∃ d xs, ds = [d] ∧ seqD d S = some xs ∧ q (.int xs.length) S) := ⟨_, call_len_seq, fun ds vs S H q Q rs r m z => by
      obtain ⟨d, xs, rfl, hl, h⟩ := m
      obtain ⟨v, rfl, r1⟩ := rp1 r
      obtain ⟨a, vs, rfl, sq, rp⟩ := rs.seqD r1 hl
      rw [P.len rp] at h
      exact ⟨a, vs, rfl, sq, z.here rs RV.int' h⟩⟩
    have h3 : CallL X cls (.builtin "len") (fun ds S q => ∃ a kvs, ds = [.ref a] ∧ dkOf S a = some kvs ∧ q (.int kvs.length) S) := by
      have hr : CallR X (.builtin "len") (fun xs H Q => ∃ a kvs, xs = [V.ref a] ∧ Rd H a (.dK kvs) ∧ Q (.int kvs.length) H) := by
        intro pins s σ H xs us Q I r h
        obtain ⟨a, kvs, rfl, e, q⟩ := h
        obtain ⟨u, rfl, ru⟩ := Vals.one r
        obtain rfl : u = Value.ref a := ru
        exact d_len I e fun t s' I' => ⟨.int kvs.length, H, I', ⟨t, rfl⟩, q⟩
      exact ⟨_, hr, fun ds vs S H q Q rs r m z => by
        obtain ⟨a, kvs, rfl, hl, h⟩ := m
        obtain ⟨v, rfl, r1⟩ := rp1 r
        obtain ⟨ws, e, kp⟩ := rs.dkOf hl
        rw [r1.refE]
        rw [P.len kp] at h
        exact ⟨a, ws, rfl, e, z.here rs RV.int' h⟩⟩
    refine cl_imp (cl_or h1 (cl_or h2 h3)) fun ds S q h => ?_
    unfold bltD at h
    split at h <;> first | exact h.elim | skip
    all_goals (rename_i hd; try cases hd)
    unfold lenD at h
    split at h
    · exact .inl ⟨_, _, rfl, rfl, h⟩
    · rcases h with ⟨xs, h⟩ | ⟨a, kvs, rfl, h⟩
      · exact .inr (.inl ⟨_, xs, rfl, h⟩)
      · exact .inr (.inr ⟨a, kvs, rfl, h⟩)
  | max2 =>
    exact cl_imp (m := fun ds S q => ∃ i j, ds = [.int i, .int j] ∧ q (.int (if j > i then j else i)) S) ⟨_, call_max2 hc, fun ds vs S H q Q rs r m z => by
      obtain ⟨i, j, rfl, h⟩ := m
      obtain ⟨v, w, rfl, r1, r2⟩ := rp2 r
      rw [r1.intE, r2.intE]
      exact ⟨i, j, rfl, z.here rs RV.int' h⟩⟩ fun ds S q h => by
        unfold bltD at h
        split at h <;> first | exact h.elim | skip
        all_goals (rename_i hd; try cases hd)
        exact ⟨_, _, rfl, h⟩
  | min2 =>
    exact cl_imp (m := fun ds S q => ∃ i j, ds = [.int i, .int j] ∧ q (.int (if j < i then j else i)) S) ⟨_, call_min2 hc, fun ds vs S H q Q rs r m z => by
      obtain ⟨i, j, rfl, h⟩ := m
      obtain ⟨v, w, rfl, r1, r2⟩ := rp2 r
      rw [r1.intE, r2.intE]
      exact ⟨i, j, rfl, z.here rs RV.int' h⟩⟩ fun ds S q h => by
        unfold bltD at h
        split at h <;> first | exact h.elim | skip
        all_goals (rename_i hd; try cases hd)
        exact ⟨_, _, rfl, h⟩
  | abs =>
    exact cl_imp (m := fun ds S q => ∃ i, ds = [.int i] ∧ q (.int (if i < 0 then -i else i)) S) ⟨_, call_abs, fun ds vs S H q Q rs r m z => by
      obtain ⟨i, rfl, h⟩ := m
      obtain ⟨v, rfl, r1⟩ := rp1 r
      rw [r1.intE]
      exact ⟨i, rfl, z.here rs RV.int' h⟩⟩ fun ds S q h => by
        unfold bltD at h
        split at h <;> first | exact h.elim | skip
        all_goals (rename_i hd; try cases hd)
        exact ⟨_, rfl, h⟩
  | int =>
    have h1 : CallL X cls (.type "int") (fun ds S q => (∃ i, ds = [.int i] ∧ q (.int i) S) ∨ ∃ k, ds = [.bl k] ∧ q (.int (if k then 1 else 0)) S) := ⟨_, call_int1, fun ds vs S H q Q rs r m z => by
      rcases m with ⟨i, rfl, h⟩ | ⟨i, rfl, h⟩
      · obtain ⟨v, rfl, r1⟩ := rp1 r
        rw [r1.intE]
        exact .inl ⟨i, rfl, z.here rs RV.int' h⟩
      · obtain ⟨v, rfl, r1⟩ := rp1 r
        rw [r1.blE]
        exact .inr ⟨i, rfl, z.here rs RV.int' h⟩⟩
    have h2 : CallL X cls (.type "int") (fun ds S q => ∃ x n, ds = [.str x] ∧ PySem.intText? x = some n ∧ x.length ≤ 640 ∧ q (.int n) S) := ⟨_, call_int_str, fun ds vs S H q Q rs r m z => by
      obtain ⟨x, n, rfl, c1, c2, h⟩ := m
      obtain ⟨v, rfl, r1⟩ := rp1 r
      rw [r1.strE]
      exact ⟨x, n, rfl, c1, c2, z.here rs RV.int' h⟩⟩
    refine cl_imp (cl_or h1 h2) fun ds S q h => ?_
    unfold bltD at h
    split at h <;> first | exact h.elim | skip
    all_goals (rename_i hd; try cases hd)
    · exact .inl (.inl ⟨_, rfl, h⟩)
    · exact .inl (.inr ⟨_, rfl, h⟩)
    · obtain ⟨n, h⟩ := h
      exact .inr ⟨_, n, rfl, h⟩
  | str =>
    exact cl_imp (m := fun ds S q => ∃ i, ds = [.int i] ∧ i.natAbs.log2 < 1920 ∧ q (.str (toString i)) S) ⟨_, call_str_int, fun ds vs S H q Q rs r m z => by
      obtain ⟨i, rfl, c, h⟩ := m
      obtain ⟨v, rfl, r1⟩ := rp1 r
      rw [r1.intE]
      exact ⟨i, rfl, c, z.here rs RV.str' h⟩⟩ fun ds S q h => by
        unfold bltD at h
        split at h <;> first | exact h.elim | skip
        all_goals (rename_i hd; try cases hd)
        exact ⟨_, rfl, h⟩
  | list =>
    exact cl_imp (m := fun ds S q => ∃ d xs, ds = [d] ∧ seqD d S = some xs ∧ newL xs S q) ⟨_, call_list_of, fun ds vs S H q Q rs r m z => by
      obtain ⟨d, xs, rfl, hl, h⟩ := m
      obtain ⟨v, rfl, r1⟩ := rp1 r
      obtain ⟨a, vs, rfl, sq, rp⟩ := rs.seqD r1 hl
      exact ⟨a, vs, rfl, sq, fun p hp => z.lst rs rp h hp⟩⟩ fun ds S q h => by
        unfold bltD at h
        split at h <;> first | exact h.elim | skip
        all_goals (rename_i hd; try cases hd)
        obtain ⟨xs, h⟩ := h
        exact ⟨_, xs, rfl, h⟩
  | tuple =>
    exact cl_imp (m := fun ds S q => ∃ d xs, ds = [d] ∧ seqD d S = some xs ∧ q (.tup xs) S) ⟨_, call_tuple_of, fun ds vs S H q Q rs r m z => by
      obtain ⟨d, xs, rfl, hl, h⟩ := m
      obtain ⟨v, rfl, r1⟩ := rp1 r
      obtain ⟨a, vs, rfl, sq, rp⟩ := rs.seqD r1 hl
      refine ⟨a, vs, rfl, ?_⟩
      rcases sq with sq | sq
      · exact .inl ⟨sq, fun p hp => z.tup rs rp h hp⟩
      · exact .inr ⟨sq, z.here rs (RV.ofTup sq rp) h⟩⟩ fun ds S q h => by
        unfold bltD at h
        split at h <;> first | exact h.elim | skip
        all_goals (rename_i hd; try cases hd)
        obtain ⟨xs, h⟩ := h
        exact ⟨_, xs, rfl, h⟩
  | dict =>
    have h1 : CallL X cls (.type "dict") (fun ds S q => ∃ d xs kvs, ds = [d] ∧ seqD d S = some xs ∧ d ≠ .tup xs ∧ pairsD xs = some kvs ∧ ∀ p, S p = none → q (.ref p) (su S p (.dk (mergeD [] kvs)))) :=
      ⟨_, call_dictP hc, fun ds vs S H q Q rs r m z => by
        obtain ⟨d, xs, kvs, rfl, hl, ne, hp, h⟩ := m
        obtain ⟨v, rfl, r1⟩ := rp1 r
        obtain ⟨a, vs, rfl, sq, rp⟩ := rs.seqL r1 hl ne
        obtain ⟨ps, ws, rfl, pp, kp⟩ := pairs_rv rp hp
        refine ⟨a, ps, ws, rfl, sq, pp, fun p hp => ?_⟩
        have t := tk_new (K := X.K) (H := H) (o := .dK (mergeK [] ws)) hp
        exact z _ _ _ _ t (rs.newS (o := .dk (mergeD [] kvs)) hp ⟨_, upd_same, KP.mono t (mergeD_rv kp .nil)⟩) RV.ref' (h p (rs.free hp))⟩
    have h2 : CallL X cls (.type "dict") (fun ds S q => ∃ a kvs, ds = [.ref a] ∧ dkOf S a = some kvs ∧ ∀ p, S p = none → q (.ref p) (su S p (.dk kvs))) := by
      have hr : CallR X (.type "dict") (fun xs H Q => ∃ a kvs, xs = [V.ref a] ∧ Rd H a (.dK kvs) ∧ ∀ p, H p = none → Q (.ref p) (upd H p (.dK kvs))) := by
        intro pins s σ H xs us Q I r h
        obtain ⟨a, kvs, rfl, e, q⟩ := h
        obtain ⟨u, rfl, ru⟩ := Vals.one r
        obtain rfl : u = Value.ref a := ru
        exact d_copyOf I e fun p s' hp I' => ⟨.ref p, _, I', rfl, q p hp⟩
      exact ⟨_, hr, fun ds vs S H q Q rs r m z => by
        obtain ⟨a, kvs, rfl, hl, h⟩ := m
        obtain ⟨v, rfl, r1⟩ := rp1 r
        obtain ⟨ws, e, kp⟩ := rs.dkOf hl
        rw [r1.refE]
        refine ⟨a, ws, rfl, e, fun p hp => ?_⟩
        have t := tk_new (K := X.K) (H := H) (o := .dK ws) hp
        exact z _ _ _ _ t (rs.newS (o := .dk kvs) hp ⟨_, upd_same, KP.mono t kp⟩) RV.ref' (h p (rs.free hp))⟩
    refine cl_imp (cl_or h1 h2) fun ds S q h => ?_
    unfold bltD at h
    split at h <;> first | exact h.elim | skip
    all_goals (rename_i hd; try cases hd)
    rcases h with ⟨xs, kvs, h⟩ | ⟨a, kvs, rfl, h⟩
    · exact .inl ⟨_, xs, kvs, rfl, h⟩
    · exact .inr ⟨a, kvs, rfl, h⟩
  | sum =>
    exact cl_imp (m := fun ds S q => ∃ d xs ns, ds = [d] ∧ seqD d S = some xs ∧ d ≠ .tup xs ∧ intsD xs = some ns ∧ q (.int ns.sum) S) ⟨_, cr_sum hc, fun ds vs S H q Q rs r m z => by
      obtain ⟨d, xs, ns, rfl, hl, ne, hi, h⟩ := m
      obtain ⟨v, rfl, r1⟩ := rp1 r
      obtain ⟨a, vs, rfl, sq, rp⟩ := rs.seqL r1 hl ne
      rw [ints_rv rp hi] at sq
      exact ⟨a, ns, rfl, sq, z.here rs RV.int' h⟩⟩ fun ds S q h => by
        unfold bltD at h
        split at h <;> first | exact h.elim | skip
        all_goals (rename_i hd; try cases hd)
        obtain ⟨xs, ns, h⟩ := h
        exact ⟨_, xs, ns, rfl, h⟩
  | all =>
    exact cl_imp (m := fun ds S q => ∃ d xs ns, ds = [d] ∧ seqD d S = some xs ∧ d ≠ .tup xs ∧ blsD xs = some ns ∧ q (.bl (ns.all id)) S) ⟨_, cr_all hc, fun ds vs S H q Q rs r m z => by
      obtain ⟨d, xs, ns, rfl, hl, ne, hi, h⟩ := m
      obtain ⟨v, rfl, r1⟩ := rp1 r
      obtain ⟨a, vs, rfl, sq, rp⟩ := rs.seqL r1 hl ne
      rw [bls_rv rp hi] at sq
      exact ⟨a, ns, rfl, sq, z.here rs RV.bl' h⟩⟩ fun ds S q h => by
        unfold bltD at h
        split at h <;> first | exact h.elim | skip
        all_goals (rename_i hd; try cases hd)
        obtain ⟨xs, ns, h⟩ := h
        exact ⟨_, xs, ns, rfl, h⟩
  | _ =>
    exact cl_imp cl_none fun ds S q h => by
      unfold bltD at h
      split at h <;> first | exact h.elim | skip
      all_goals (rename_i hd; cases hd)

/-! ### isinstance -/
inductive TyS (K : PySem.W.Frag) (H : Hp) : V → Bc → Prop where
  | non : TyS K H .non .non
  | bl (x : Bool) : TyS K H (.bl x) .bool
  | int (i : Int) : TyS K H (.int i) .int
  | str (x : Str) : TyS K H (.str x) .str
  | lst {a : Addr} {xs : List V} (e : SqL K H a xs) : TyS K H (.ref a) .list
  | tup {a : Addr} {xs : List V} (e : SqT K H a xs) : TyS K H (.ref a) .tuple
  | dK {a : Addr} {kvs : List (Key × V)} (e : Rd H a (.dK kvs)) : TyS K H (.ref a) .dict
theorem kitB_isB (a b : Bc) : kitB a.name b.name = some (isB a b) := by
  cases a <;> cases b <;> decide +kernel
theorem call_isB : CallR X (.builtin "isinstance") (fun xs H Q => ∃ x c t, xs = [x, .ty (Bc.name t)] ∧ TyS X.K H x c ∧ Q (.bl (isB c t)) H) := by
  intro pins s σ H xs us Q I r h
  obtain ⟨x, c, t, rfl, ty, q⟩ := h
  obtain ⟨u, u2, rfl, ru, ru2⟩ := Vals.two r
  obtain rfl : u2 = Value.type t.name := ru2
  have e : PySem.W.kitOne X.K (.type c.name) (.type t.name) = some (isB c t) := kit_ty (kitB_isB c t)
  have fin : ∀ tk, EP X pins σ Q (.bool (isB c t)) { s with toks := tk } := fun tk => ⟨.bl _, H, I.tok _, rfl, q⟩
  cases ty with
  | non => cases (show u = Value.none from ru); exact PySem.W.kia_one PySem.W.kitx_none I.kIn True.intro e (fun z => nomatch z) fin
  | bl y => cases (show u = Value.bool y from ru); exact PySem.W.kia_one PySem.W.kitx_bool I.kIn True.intro e (fun z => nomatch z) fin
  | int i => obtain ⟨t, q⟩ := (show ∃ t, u = Value.int i t from ru); cases q; exact PySem.W.kia_one PySem.W.kitx_int I.kIn True.intro e (fun z => nomatch z) fin
  | str y => obtain ⟨t, q⟩ := (show ∃ t, u = Value.str y t from ru); cases q; exact PySem.W.kia_one PySem.W.kitx_str I.kIn True.intro e (fun z => nomatch z) fin
  | @lst a xs ea =>
    cases (show u = Value.ref a from ru)
    obtain ⟨_, _, ⟨o, n, h1, h2, _⟩, _⟩ := I.list ea
    exact PySem.W.kia_one PySem.W.kitx_list I.kIn ⟨o, h1, h2⟩ e (fun z => nomatch z) fin
  | @tup a xs ea =>
    cases (show u = Value.ref a from ru)
    obtain ⟨_, _, ⟨o, h1, h2, _⟩, _⟩ := I.tuple ea
    exact PySem.W.kia_one PySem.W.kitx_tuple I.kIn ⟨o, h1, h2⟩ e (fun z => nomatch z) fin
  | @dK a kvs ea =>
    cases (show u = Value.ref a from ru)
    obtain ⟨_, _, vs, _, o, es, ep, h1, h2, _⟩ := dk_rd I.hok ea
    exact PySem.W.kia_one PySem.W.kitx_dict I.kIn ⟨o, h1, h2.1⟩ e (fun z => nomatch z) fin
theorem cls_rv {c : Bc} (rs : RS X.K H cls S) (r : RV X.K H d v) (h : clsD d S = some c) : TyS X.K H v c := by
  cases d with
  | non => cases h; cases r.nonE; exact .non
  | bl b => cases h; cases r.blE; exact .bl b
  | int b => cases h; cases r.intE; exact .int b
  | str b => cases h; cases r.strE; exact .str b
  | tup b => cases h; obtain ⟨a, vs, rfl, sq, _⟩ := r.tup; exact .tup sq
  | fl b => cases h; obtain ⟨a, vs, rfl, sq, _⟩ := r.flE; exact .lst sq.sq
  | ref a =>
    cases r.refE
    unfold clsD at h
    simp only at h
    split at h
    · rename_i e
      cases h
      obtain ⟨vs, e, _⟩ := rs a _ e
      exact .lst (.inl (.inl e))
    · rename_i e
      cases h
      obtain ⟨vs, e, _⟩ := rs a _ e
      exact .dK (.inl e)
    · cases h

/-! ### methods by values -/
def MT.name : MT → String
  | .str => "str" | .list => "list"
def MtL (X : Cx) (cls : Nat → Addr) (id : String) (m : D → List D → Sto → QD → Prop) : Prop :=
  ∃ r : V → List V → Hp → VK → Prop, MtR X id r ∧ ∀ (o : D) (ds : List D) (v : V) (vs : List V) (S : Sto) (H : Hp) (q : QD) (Q : VK), RS X.K H cls S → RV X.K H o v → RP X.K H ds vs → m o ds S q → QL X.K cls H q Q → r v vs H Q
theorem ml_imp {id : String} {m m' : D → List D → Sto → QD → Prop} (h : MtL X cls id m) (i : ∀ o d S q, m' o d S q → m o d S q) : MtL X cls id m' := by
  obtain ⟨r, hr, k⟩ := h
  exact ⟨r, hr, fun o d v vs S H q Q a b b2 m z => k o d v vs S H q Q a b b2 (i _ _ _ _ m) z⟩
theorem ml_none {id : String} : MtL X cls id (fun _ _ _ _ => False) := ⟨fun _ _ _ _ => False, fun _ _ _ _ _ _ _ _ _ _ _ _ h => h.elim, fun _ _ _ _ _ _ _ _ _ _ _ h => h.elim⟩
def Mth.id (m : Mth) : String := m.ty.name ++ "." ++ m.name
theorem ty_rv {T : MT} (rs : RS X.K H cls S) (r : RV X.K H d v) (h : tyD T d S) : tyV X.K T.name v H := by
  unfold tyD at h
  split at h
  · rw [r.strE]; rfl
  · obtain ⟨xs, h⟩ := h
    obtain ⟨_, vs, e, _⟩ := rs.lstOf h
    rw [r.refE]
    exact .inl ⟨rfl, vs, .inl (.inl e)⟩
  · exact h.elim
theorem ml_mth (m : Mth) : MtL X cls m.id (mthD m) := by
  have fall : ∀ {m : Mth}, (∀ o ds S q, mthD m o ds S q → False) → MtL X cls m.id (mthD m) := fun {m} h => ml_imp ml_none fun o ds S q z => h o ds S q z
  cases m with
  | append =>
    refine ml_imp (m := fun o ds S q => ∃ a x xs, o = .ref a ∧ ds = [x] ∧ lstOf S a = some xs ∧ xs.length < sizeLine ∧ q .non (su S a (.lst (xs ++ [x])))) ⟨_, mt_append, fun o ds v vs S H q Q rs ro r m z => ?_⟩ fun o ds S q h => ?_
    · obtain ⟨a, x, xs, rfl, rfl, hl, c, h⟩ := m
      obtain ⟨w, rfl, r1⟩ := rp1 r
      obtain ⟨_, ys, e, rp⟩ := rs.lstOf hl
      rw [ro.refE]
      have t : TK X.K H (upd H a (.lst (ys ++ [w]))) := tk_mut e mu_lst
      exact ⟨a, ys, w, rfl, rfl, e, by rw [← P.len rp]; exact c, z _ _ _ _ t (rs.put (o := .lst (xs ++ [x])) e mu_lst ⟨_, upd_same, RP.mono t (P.app rp (.cons r1 .nil))⟩) RV.non' h⟩
    · unfold mthD at h
      split at h <;> first | exact h.elim | skip
      all_goals (rename_i hd; try cases hd)
      obtain ⟨xs, h⟩ := h
      exact ⟨_, _, xs, rfl, rfl, h⟩
  | extend =>
    refine ml_imp (m := fun o ds S q => ∃ a b xs ys, o = .ref a ∧ ds = [.ref b] ∧ lstOf S a = some xs ∧ lstOf S b = some ys ∧ xs.length + ys.length ≤ sizeLine ∧ q .non (su S a (.lst (xs ++ ys)))) ⟨_, mt_extend, fun o ds v vs S H q Q rs ro r m z => ?_⟩ fun o ds S q h => ?_
    · obtain ⟨a, b, xs, ys, rfl, rfl, hl, hl2, c, h⟩ := m
      obtain ⟨w, rfl, r1⟩ := rp1 r
      obtain ⟨_, us, e, rp⟩ := rs.lstOf hl
      obtain ⟨_, ws, e2, rp2⟩ := rs.lstOf hl2
      rw [ro.refE, r1.refE]
      have t : TK X.K H (upd H a (.lst (us ++ ws))) := tk_mut e mu_lst
      exact ⟨a, b, us, ws, rfl, rfl, e, e2, by rw [← P.len rp, ← P.len rp2]; exact c, z _ _ _ _ t (rs.put (o := .lst (xs ++ ys)) e mu_lst ⟨_, upd_same, RP.mono t (P.app rp rp2)⟩) RV.non' h⟩
    · unfold mthD at h
      split at h <;> first | exact h.elim | skip
      all_goals (rename_i hd; try cases hd)
      obtain ⟨xs, ys, h⟩ := h
      exact ⟨_, _, xs, ys, rfl, rfl, h⟩
  | pop =>
    refine ml_imp (m := fun o ds S q => ∃ a xs y, o = .ref a ∧ ds = [] ∧ lstOf S a = some xs ∧ xs[xs.length - 1]? = some y ∧ q y (su S a (.lst xs.dropLast))) ⟨_, mt_pop, fun o ds v vs S H q Q rs ro r m z => ?_⟩ fun o ds S q h => ?_
    · obtain ⟨a, xs, y, rfl, rfl, hl, c, h⟩ := m
      cases r
      obtain ⟨_, us, e, rp⟩ := rs.lstOf hl
      rw [ro.refE]
      obtain ⟨w, hw, rw'⟩ := P.get rp c
      have t : TK X.K H (upd H a (.lst us.dropLast)) := tk_mut e mu_lst
      exact ⟨a, us, w, rfl, rfl, e, by rw [← P.len rp]; exact hw, z _ _ _ _ t (rs.put (o := .lst xs.dropLast) e mu_lst ⟨_, upd_same, RP.mono t (P.dropLast rp)⟩) (rw'.mono t) h⟩
    · unfold mthD at h
      split at h <;> first | exact h.elim | skip
      all_goals (rename_i hd; try cases hd)
      obtain ⟨xs, y, h⟩ := h
      exact ⟨_, xs, y, rfl, rfl, h⟩
  | popAt =>
    refine ml_imp (m := fun o ds S q => ∃ a i xs k y, o = .ref a ∧ ds = [.int i] ∧ lstOf S a = some xs ∧ -(2 ^ 63) ≤ i ∧ i < 2 ^ 63 ∧ seqIndex? i xs.length = some k ∧ xs[k]? = some y ∧ q y (su S a (.lst (xs.eraseIdx k)))) ⟨_, mt_popAt, fun o ds v vs S H q Q rs ro r m z => ?_⟩ fun o ds S q h => ?_
    · obtain ⟨a, i, xs, k, y, rfl, rfl, hl, c1, c2, c3, c, h⟩ := m
      obtain ⟨w, rfl, r1⟩ := rp1 r
      obtain ⟨_, us, e, rp⟩ := rs.lstOf hl
      rw [ro.refE, r1.intE]
      obtain ⟨w, hw, rw'⟩ := P.get rp c
      have t : TK X.K H (upd H a (.lst (us.eraseIdx k))) := tk_mut e mu_lst
      exact ⟨a, us, i, k, w, rfl, rfl, e, c1, c2, by rw [← P.len rp]; exact c3, hw, z _ _ _ _ t (rs.put (o := .lst (xs.eraseIdx k)) e mu_lst ⟨_, upd_same, RP.mono t (P.erase k rp)⟩) (rw'.mono t) h⟩
    · unfold mthD at h
      split at h <;> first | exact h.elim | skip
      all_goals (rename_i hd; try cases hd)
      obtain ⟨xs, k, y, h⟩ := h
      exact ⟨_, _, xs, k, y, rfl, rfl, h⟩
  | reverse =>
    refine ml_imp (m := fun o ds S q => ∃ a xs, o = .ref a ∧ ds = [] ∧ lstOf S a = some xs ∧ q .non (su S a (.lst xs.reverse))) ⟨_, mt_reverse, fun o ds v vs S H q Q rs ro r m z => ?_⟩ fun o ds S q h => ?_
    · obtain ⟨a, xs, rfl, rfl, hl, h⟩ := m
      cases r
      obtain ⟨_, us, e, rp⟩ := rs.lstOf hl
      rw [ro.refE]
      have t : TK X.K H (upd H a (.lst us.reverse)) := tk_mut e mu_lst
      exact ⟨a, us, rfl, rfl, e, z _ _ _ _ t (rs.put (o := .lst xs.reverse) e mu_lst ⟨_, upd_same, RP.mono t (P.rev rp)⟩) RV.non' h⟩
    · unfold mthD at h
      split at h <;> first | exact h.elim | skip
      all_goals (rename_i hd; try cases hd)
      obtain ⟨xs, h⟩ := h
      exact ⟨_, xs, rfl, rfl, h⟩
  | clear =>
    refine ml_imp (m := fun o ds S q => ∃ a xs, o = .ref a ∧ ds = [] ∧ lstOf S a = some xs ∧ q .non (su S a (.lst []))) ⟨_, mt_clear, fun o ds v vs S H q Q rs ro r m z => ?_⟩ fun o ds S q h => ?_
    · obtain ⟨a, xs, rfl, rfl, hl, h⟩ := m
      cases r
      obtain ⟨_, us, e, rp⟩ := rs.lstOf hl
      rw [ro.refE]
      have t : TK X.K H (upd H a (.lst [])) := tk_mut e mu_lst
      exact ⟨a, us, rfl, rfl, e, z _ _ _ _ t (rs.put (o := .lst []) e mu_lst ⟨_, upd_same, .nil⟩) RV.non' h⟩
    · unfold mthD at h
      split at h <;> first | exact h.elim | skip
      all_goals (rename_i hd; try cases hd)
      obtain ⟨xs, h⟩ := h
      exact ⟨_, xs, rfl, rfl, h⟩
  | join =>
    refine ml_imp (m := fun o ds S q => ∃ x d xs ys, o = .str x ∧ ds = [d] ∧ seqD d S = some xs ∧ strsD xs = some ys ∧ (ys.map (·.length)).sum + ys.length * x.length ≤ 16777216 ∧ q (.str (Txt.join x ys)) S) ⟨_, mt_join, fun o ds v vs S H q Q rs ro r m z => ?_⟩ fun o ds S q h => ?_
    · obtain ⟨x, d, xs, ys, rfl, rfl, hl, hy, c, h⟩ := m
      obtain ⟨w, rfl, r1⟩ := rp1 r
      rw [ro.strE]
      obtain ⟨a, vs, rfl, sq, rp⟩ := rs.seqD r1 hl
      rw [strs_rv rp hy] at sq
      exact ⟨x, a, ys, rfl, rfl, sq, c, z.here rs RV.str' h⟩
    · unfold mthD at h
      split at h <;> first | exact h.elim | skip
      all_goals (rename_i hd; try cases hd)
      obtain ⟨xs, ys, h⟩ := h
      exact ⟨_, _, xs, ys, rfl, rfl, h⟩
  | sindex =>
    refine ml_imp (m := fun o ds S q => ∃ x y i rest, o = .str x ∧ ds = [.str y] ∧ Builtin.Str.occurrences x y 0 x.length 1 = i :: rest ∧ q (.int (i : Nat)) S) ⟨_, mt_sindex, fun o ds v vs S H q Q rs ro r m z => ?_⟩ fun o ds S q h => ?_
    · obtain ⟨x, y, i, rest, rfl, rfl, c, h⟩ := m
      obtain ⟨w, rfl, r1⟩ := rp1 r
      rw [ro.strE, r1.strE]
      exact ⟨x, y, i, rest, rfl, rfl, c, z.here rs RV.int' h⟩
    · unfold mthD at h
      split at h <;> first | exact h.elim | skip
      all_goals (rename_i hd; try cases hd)
      obtain ⟨i, rest, h⟩ := h
      exact ⟨_, _, i, rest, rfl, rfl, h⟩
  | _ =>
    refine fall fun o ds S q h => ?_
    unfold mthD at h
    split at h <;> first | exact h | skip
    all_goals (rename_i hd; cases hd)
end
end DL

set_option Elab.async false
set_option linter.all false
set_option maxRecDepth 100000
/-! DLd: a text against its lowering; what is wished in the language holds of the text: expressions -/
namespace DL
open PySem PySem.Spec PyProof.Rows L2

/-! ### the checker -/
structure Gam where
  N : List Str
  sc : Scope
def visB (sc : Scope) (x : Str) : Bool :=
  match sc.names.lookup x with
  | some .local => true
  | some .cell => true
  | some .free => true
  | _ => false
def nmB (Γ : Gam) (i : Nat) (x : Str) : Bool := decide (Γ.N[i]? = some x) && visB Γ.sc x && !(x == ("__debug__" : Str)) && !(x == ("__classdict__" : Str))
def glB (Γ : Gam) (x : Str) : Bool := decide (Γ.sc.names.lookup x = some .globalImplicit) && !(x == ("__debug__" : Str)) && decide (x ≠ "__name__")
def freeB (G : GT) (Γ : Gam) (x : Str) : Bool := glB Γ x && decide (x ∈ G.free)
def notStar : Expr → Bool
  | .Starred _ _ => false
  | _ => true
def notSet : Expr → Bool
  | .Set _ _ _ => false
  | _ => true
def notSlice : Expr → Bool
  | .Slice _ _ _ _ => false
  | _ => true
def notCall0 : Expr → Bool
  | .Call _ [] _ _ => false
  | _ => true
def bltN : Blt → Option String
  | .len => some "len" | .max2 => some "max" | .min2 => some "min" | .abs => some "abs" | .int => some "int" | .str => some "str" | .list => some "list" | .tuple => some "tuple"
  | .dict => some "dict" | .sum => some "sum" | .all => some "all" | _ => none
def tgB (Γ : Gam) (own : Scope) : Tg → Expr → Bool
  | .nm i, .Name x _ => decide (Γ.N[i]? = some x) && (decide (own.names.lookup x = some .local) || decide (own.names.lookup x = some .cell))
  | .tp l, .Tuple es _ _ => decide (es.length = l.length) && (l.zip es).all fun p => match p.2 with
    | .Name x _ => decide (Γ.N[p.1]? = some x) && (decide (own.names.lookup x = some .local) || decide (own.names.lookup x = some .cell))
    | _ => false
  | _, _ => false
def tgIn (own : List Nat) : Tg → Bool
  | .nm i => decide (i ∈ own)
  | .tp l => l.all fun i => decide (i ∈ own)
def ownL (Γ : Gam) (own : List Nat) : List (Str × Nat) := own.map fun i => ((Γ.N[i]?).getD default, i)
def keyLit : Option Expr → Option Key
  | some (.Constant (.int j) _ _) => some (.inl j)
  | some (.Constant (.str j) _ _) => some (.inr j)
  | _ => none
def refK : List Key → List (Option Expr) → Bool
  | [], [] => true
  | k :: ks, e :: es => decide (keyLit e = some k) && refK ks es
  | _, _ => false
def isOne : Expr → Bool
  | .Constant c _ _ => (match c with | .int i => decide (i = 1) | _ => false)
  | _ => false
def isRev1 : Expr → Bool
  | .UnaryOp op z _ => (match op with | .USub => isOne z | _ => false)
  | _ => false
def isiB (ts : List Ty) (f : Bc → Bool) : Bool :=
  match ts with
  | [.b t] => f t
  | _ => false
def lrvB (g : Str → Bool) (f : Expr → Bool) : Expr → Bool
  | .Call (.Name y _) [e] [] _ => decide (y = "reversed") && g y && notStar e && f e
  | _ => false
def lsetB (g : Str → Bool) (f : Expr → Bool) : Expr → Bool
  | .Call (.Name y _) [e] [] _ => decide (y = "set") && g y && notStar e && f e
  | _ => false
mutual
def refE (G : GT) : E → Gam → Expr → Bool
  | .var i, Γ, .Name x _ => nmB Γ i x
  | .int i, _, .Constant (.int j) _ _ => decide (i = j)
  | .str i, _, .Constant (.str j) _ _ => decide (i = j)
  | .bl i, _, .Constant (.bool j) _ _ => decide (i = j)
  | .non, _, .Constant .none _ _ => true
  | .glo x, Γ, .Name y _ => decide (x = y) && glB Γ x
  | .bin op a b, Γ, .BinOp x o y _ => decide (op = o) && refE G a Γ x && refE G b Γ y
  | .neg a, Γ, .UnaryOp .USub x _ => refE G a Γ x
  | .cmp op a b, Γ, .Compare x [o] [y] _ => decide (op = o) && notSet y && refE G a Γ x && refE G b Γ y
  | .chn o1 o2 a b c, Γ, .Compare x [p1, p2] [y, z] _ => decide (o1 = p1) && decide (o2 = p2) && notSet y && notSet z && refE G a Γ x && refE G b Γ y && refE G c Γ z
  | .and es, Γ, .BoolOp .And vs _ => !vs.isEmpty && refL G es Γ vs
  | .or es, Γ, .BoolOp .Or vs _ => !vs.isEmpty && refL G es Γ vs
  | .not a, Γ, .UnaryOp .Not x _ => refE G a Γ x
  | .ite t a b, Γ, .IfExp x y z _ => refE G t Γ x && refE G a Γ y && refE G b Γ z
  | .tup es, Γ, .Tuple vs _ _ => refL G es Γ vs
  | .lst es, Γ, .List vs _ => refL G es Γ vs
  | .dic kk vs, Γ, .Dict ks es _ => refK kk ks && decide (ks.length = es.length) && decide (ks.length ≤ 15) && refL G vs Γ es
  | .idx a i, Γ, .Subscript x y _ => notSlice y && refE G a Γ x && refE G i Γ y
  | .slc l u a lo hi, Γ, .Subscript x (.Slice p q none _) _ => refE G a Γ x &&
      (match l, p with | false, none => true | true, some e => refE G lo Γ e | _, _ => false) && (match u, q with | false, none => true | true, some e => refE G hi Γ e | _, _ => false)
  | .rvs a, Γ, .Subscript x (.Slice none none (some st) _) _ => isRev1 st && refE G a Γ x
  | .lrv a, Γ, .Call (.Name x _) [z] [] _ => decide (x = "list") && freeB G Γ x && lrvB (freeB G Γ) (refE G a Γ) z
  | .lset a, Γ, .Call (.Name x _) [z] [] _ => decide (x = "len") && freeB G Γ x && lsetB (freeB G Γ) (refE G a Γ) z
  | .call f es, Γ, .Call (.Name x _) vs [] _ => decide (G.fn f = some x) && glB Γ x && !vs.isEmpty && refL G es Γ vs
  | .blt b es, Γ, .Call (.Name x _) vs [] _ => (match bltN b with | some n => decide (x = n) | none => false) && freeB G Γ x && !vs.isEmpty && refL G es Γ vs
  | .mth m o es, Γ, .Call (.Attribute y x p) vs [] q => decide (x = Str.ofString m.name) && notCall0 y && (p.endLine == q.line) && decide (vs.length < 25) && refE G o Γ y && refL G es Γ vs
  | .isi a ts, Γ, .Call (.Name x _) [y, .Name z _] [] _ => isiB ts (fun t => decide (x = "isinstance") && freeB G Γ x && decide (z = Str.ofString t.name) && freeB G Γ z && notStar y && decide (t ≠ .non)) && refE G a Γ y
  | .lc k src own t c elt cond, Γ, .ListComp y [⟨tg, iter, ifs, a⟩] scope _ =>
      decide (a = 0) && blkC Γ.N Γ.sc scope (ownL Γ own) && notSet iter && tgB Γ scope t tg && tgIn own t &&
      (match k with
        | .all => refE G src Γ iter
        | .rng1 => (match iter with | .Call (.Name x _) [e] [] _ => decide (x = "range") && freeB G Γ x && refL G src Γ [e] | _ => false)
        | .rng2 => (match iter with | .Call (.Name x _) [e, f] [] _ => decide (x = "range") && freeB G Γ x && refL G src Γ [e, f] | _ => false)
        | _ => false) &&
      refE G elt ⟨Γ.N, relS scope Γ.sc⟩ y && (match c, ifs with | false, [] => true | true, [z] => refE G cond ⟨Γ.N, relS scope Γ.sc⟩ z | _, _ => false)
  | _, _, _ => false
def refL (G : GT) : E → Gam → List Expr → Bool
  | .nil, _, [] => true
  | .cons a b, Γ, e :: es => notStar e && refE G a Γ e && refL G b Γ es
  | _, _, _ => false
end

/-! ### what is known of a context -/
/-- a def's promise over data -/
def lsp (K : PySem.W.Frag) (cls : Nat → Addr) (m : List D → Sto → QD → XD → Prop) : Sp := fun vs H Q E =>
  ∃ ds S q x, RP K H ds vs ∧ RS K H cls S ∧ m ds S q x ∧ QL K cls H q Q ∧ XL K cls H x E
structure XOK (G : GT) (Φ : Call) (cls : Nat → Addr) (k : Nat) (Γ : Gam) (W : WX) (X : Cx) : Prop where
  N : X.N = Γ.N
  sc : X.env.scope = Γ.sc
  nd : Γ.N.Nodup
  calm : X.calm = true
  room : Room k X.A
  tk : Takes X W
  fns : ∀ f x, G.fn f = some x → ∃ (fa : Addr) (fd : FuncData) (ps : List Str), X.mg x = some (.ref fa) ∧ PySem.W.keepIn X.K (.ref fa) = true ∧ Binds X.K fd ps [] ∧
    FnOk X.prog X.w X.K X.mg X.base (L2.CX X.prog X.w) k fa fd ps (lsp X.K cls (Φ f))
  cs : ∀ x d, G.cs.lookup x = some d → ∃ (u : Value) (v : V), X.mg x = some u ∧ RelV v u ∧ ∀ H, RV X.K H d v
  free : ∀ x ∈ G.free, X.mg x = none

/-! ### lifts -/
section
variable (K : PySem.W.Frag) (cls : Nat → Addr) (W : WX)
abbrev WE' := En → Sto → QD → XD → Prop
def lft (m : WE') : TE := fun σ H Q => ∃ ρ S q x, RE K H ρ σ ∧ RS K H cls S ∧ m ρ S q x ∧ QL K cls H q Q ∧ XL K cls H x fun c a H' => W c a σ H'
def QLT (H : Hp) (q : QD) (Q : Bool → Hp → Prop) : Prop := ∀ d S' H', TK K H H' → RS K H' cls S' → q d S' → ∃ b, d = .bl b ∧ Q b H'
def lftT (m : WE') : TT := fun σ H Q => ∃ ρ S q x, RE K H ρ σ ∧ RS K H cls S ∧ m ρ S q x ∧ QLT K cls H q Q ∧ XL K cls H x fun c a H' => W c a σ H'
def QLA (H : Hp) (q : QD) (Q : List V → Hp → Prop) : Prop := ∀ d S' H', TK K H H' → RS K H' cls S' → q d S' → ∃ ds, d = .tup ds ∧ ∀ vs, RP K H' ds vs → Q vs H'
def lftA (m : WE') : TA := fun σ H Q => ∃ ρ S q x, RE K H ρ σ ∧ RS K H cls S ∧ m ρ S q x ∧ (∀ ds S' vs H', TK K H H' → RS K H' cls S' → RP K H' ds vs → q (.tup ds) S' → Q vs H') ∧ XL K cls H x fun c a H' => W c a σ H'
end
theorem PE.imp {X : Cx} {e : Expr} {t t' : TE} (h : PE X e t) (i : ∀ σ H Q, t' σ H Q → t σ H Q) : PE X e t' := ⟨fun pins s σ H Q I q => h.run pins s σ H Q I (i σ H Q q)⟩
theorem PT.imp {X : Cx} {e : Expr} {t t' : TT} (h : PT X e t) (i : ∀ σ H Q, t' σ H Q → t σ H Q) : PT X e t' := ⟨fun pins s σ H Q I q => h.run pins s σ H Q I (i σ H Q q)⟩
theorem PW.imp {X : Cx} {e : Expr} {t t' : TT} (h : PW X e t) (i : ∀ σ H Q, t' σ H Q → t σ H Q) : PW X e t' := ⟨fun wh pins s σ H Q I q => h.run wh pins s σ H Q I (i σ H Q q)⟩
theorem PA.imp {X : Cx} {e : List Expr} {t t' : TA} (h : PA X e t) (i : ∀ σ H Q, t' σ H Q → t σ H Q) : PA X e t' := ⟨fun pos pins s σ H Q I q => h.run pos pins s σ H Q I (i σ H Q q)⟩
theorem PE.or {X : Cx} {e : Expr} {t t' : TE} (h : PE X e t) (h' : PE X e t') : PE X e (fun σ H Q => t σ H Q ∨ t' σ H Q) :=
  ⟨fun pins s σ H Q I q => q.elim (fun q => h.run pins s σ H Q I q) fun q => h'.run pins s σ H Q I q⟩
theorem PI.or {X : Cx} {tg e : Expr} {t t' : TI} (h : PI X tg e t) (h' : PI X tg e t') : PI X tg e (fun σ H Q => t σ H Q ∨ t' σ H Q) :=
  ⟨fun pins s σ H Q I q => q.elim (fun q => h.run pins s σ H Q I q) fun q => h'.run pins s σ H Q I q⟩
theorem PI.imp {X : Cx} {tg e : Expr} {t t' : TI} (h : PI X tg e t) (i : ∀ σ H Q, t' σ H Q → t σ H Q) : PI X tg e t' := ⟨fun pins s σ H Q I q => h.run pins s σ H Q I (i σ H Q q)⟩

/-! ### small facts of the text -/
theorem visB_vis {sc : Scope} {x : Str} (h : visB sc x = true) : Vis sc x := by
  unfold visB at h
  split at h <;> first | cases h | skip
  · exact .inl (by assumption)
  · exact .inr (.inl (by assumption))
  · exact .inr (.inr (by assumption))
theorem nmB_of {Γ : Gam} {i : Nat} {x : Str} (h : nmB Γ i x = true) : Γ.N[i]? = some x ∧ Vis Γ.sc x ∧ (x == ("__debug__" : Str)) = false ∧ (x == ("__classdict__" : Str)) = false := by
  unfold nmB at h
  simp only [Bool.and_eq_true, decide_eq_true_eq, Bool.not_eq_true'] at h
  exact ⟨h.1.1.1, visB_vis h.1.1.2, h.1.2, h.2⟩
theorem glB_of {Γ : Gam} {x : Str} (h : glB Γ x = true) : Γ.sc.names.lookup x = some .globalImplicit ∧ (x == ("__debug__" : Str)) = false ∧ x ≠ "__name__" := by
  unfold glB at h
  simp only [Bool.and_eq_true, decide_eq_true_eq, Bool.not_eq_true'] at h
  exact ⟨h.1.1, h.1.2, h.2⟩
theorem freeB_of {G : GT} {Γ : Gam} {x : Str} (h : freeB G Γ x = true) : Γ.sc.names.lookup x = some .globalImplicit ∧ (x == ("__debug__" : Str)) = false ∧ x ≠ "__name__" ∧ x ∈ G.free := by
  unfold freeB at h
  simp only [Bool.and_eq_true, decide_eq_true_eq] at h
  exact ⟨(glB_of h.1).1, (glB_of h.1).2.1, (glB_of h.1).2.2, h.2⟩
theorem gl_of {X : Cx} {Γ : Gam} {x : Str} (e : X.env.scope = Γ.sc) (h : Γ.sc.names.lookup x = some .globalImplicit) : Gl X x := by
  show X.env.scope.names.lookup x = _
  rw [e]
  exact h
theorem star_cons {e : Expr} {es : List Expr} {env : Env} (h : notStar e = true) : starEach (e :: es) env = (false, eval e env) :: starEach es env := by
  cases e <;> first | rfl | cases h
theorem refL_stars {G : GT} {Γ : Gam} {env : Env} : ∀ {e : E} {es : List Expr}, refL G e Γ es = true → starEach es env = es.map fun x => (false, eval x env)
  | .nil, [], _ => rfl
  | .cons a b, x :: xs, h => by
    unfold refL at h
    simp only [Bool.and_eq_true] at h
    rw [star_cons h.1.1, refL_stars h.2]
    rfl
theorem refL_plain {G : GT} {Γ : Gam} {env : Env} {pos : Pos} {e : E} {es : List Expr} (h : refL G e Γ es = true) : (backTo pos (starEach es env)).any (·.1) = false := by
  rw [refL_stars h]
  unfold backTo
  rw [List.map_map, List.any_map]
  induction es with
  | nil => rfl
  | cons x xs ih => simp
theorem refL_cons {G : GT} {Γ : Gam} {e : E} {x : Expr} {xs : List Expr} (h : refL G e Γ (x :: xs) = true) : ∃ a b, e = .cons a b ∧ notStar x = true ∧ refE G a Γ x = true ∧ refL G b Γ xs = true := by
  cases e <;> first | (exact Bool.noConfusion h) | skip
  rename_i a b
  unfold refL at h
  simp only [Bool.and_eq_true] at h
  exact ⟨a, b, rfl, h.1.1, h.1.2, h.2⟩
theorem plainIx_of {e : Expr} (h : notSlice e = true) : PlainIx e := by
  intro o i
  cases e <;> first | rfl | cases h
theorem base_of {o : Expr} {a : Str} {env : Env} (h : notCall0 o = true) : attributeBase o a env (eval o env) = eval o env := by
  cases o <;> first | rfl | skip
  rename_i f args kws pos
  cases args with
  | nil => cases h
  | cons x xs => cases f <;> rfl
theorem mark_of {op : CmpOp} {b : Expr} (h : notSet b = true) : behindInMarks op b = false := by
  cases b <;> first | rfl | cases h
theorem fold_of {e : Expr} {env : Env} (h : notSet e = true) (x : Value) : foldedSetIterable e env x = pure x := by
  cases e <;> first | rfl | cases h
end DL

set_option Elab.async false
set_option linter.all false
set_option maxRecDepth 100000
/-! DLe: walks and targets over data -/
namespace DL
open PySem PySem.Spec PyProof.Rows L2

/-! ### targets -/
def gl (l : List Nat) : TGs := fun vs σ H Q => vs.length = l.length ∧ Q ((l.zip vs).foldl (fun σ p => σ.set p.1 (some p.2)) σ) H
theorem PGs.imp {X : Cx} {e : List Expr} {t t' : TGs} (h : PGs X e t) (i : ∀ vs σ H Q, t' vs σ H Q → t vs σ H Q) : PGs X e t' := ⟨fun pins s σ H v u Q I r q => h.run pins s σ H v u Q I r (i v σ H Q q)⟩
theorem PG.imp {X : Cx} {e : Expr} {t t' : TG} (h : PG X e t) (i : ∀ vs σ H Q, t' vs σ H Q → t vs σ H Q) : PG X e t' := ⟨fun pins s σ H v u Q I r q => h.run pins s σ H v u Q I r (i v σ H Q q)⟩
/-- names that may be stored -/
def StOk (X : Cx) (x : Str) : Prop := Loc X.env.scope x ∧ (X.fn x = true ∨ X.env.scope.names.lookup x = some .local)
def isNameB : Expr → Bool
  | .Name _ _ => true
  | _ => false
theorem pgs_names {X : Cx} (hN : X.N.Nodup) : ∀ {l : List Nat} {es : List Expr}, es.length = l.length → (∀ p ∈ l.zip es, ∃ x pos, p.2 = .Name x pos ∧ X.N[p.1]? = some x ∧ StOk X x) → PGs X es (gl l)
  | [], [], _, _ => PGs.imp pgs_nil fun vs σ H Q h => by
    cases vs with
    | nil => exact ⟨rfl, h.2⟩
    | cons => exact absurd h.1 (by simp)
  | [], _ :: _, h, _ => by simp at h
  | _ :: _, [], h, _ => by simp at h
  | i :: l, e :: es, hl, h => by
    obtain ⟨x, pos, e1, hi, h1, h2⟩ := h (i, e) (by simp)
    have e1 : e = .Name x pos := e1
    subst e1
    have ih := pgs_names hN (l := l) (es := es) (by simpa using hl) fun p hp => h p (by simp [hp])
    refine PGs.imp (pgs_cons (pg_name hN hi h1 h2) ih) fun vs σ H Q q => ?_
    cases vs with
    | nil => exact absurd q.1 (by simp)
    | cons v vs => exact ⟨v, vs, rfl, by simpa using q.1, q.2⟩
theorem each_names {env : Env} : ∀ {es : List Expr}, (∀ e ∈ es, isNameB e = true) → assignEach es env = es.map fun e => (false, assign e env)
  | [], _ => rfl
  | e :: es, h => by
    have h1 := h e (by simp)
    have ih := each_names (env := env) (es := es) fun x hx => h x (by simp [hx])
    cases e <;> first | (exact Bool.noConfusion h1) | skip
    show _ :: assignEach es env = _
    rw [ih]
    rfl
/-- a target over data -/
def gT (K : PySem.W.Frag) (t : Tg) : TG := match t with
  | .nm i => gName i
  | .tp l => gTup K l.length (gl l)
theorem pg_tg {X : Cx} {Γ : Gam} {own : Scope} (hN : X.N.Nodup) (eN : X.N = Γ.N) (hc : X.calm = true) (hst : ∀ x, own.names.lookup x = some .local ∨ own.names.lookup x = some .cell → StOk X x) :
    ∀ {t : Tg} {tg : Expr}, tgB Γ own t tg = true → PG X tg (gT X.K t)
  | .nm i, tg, h => by
    cases tg <;> first | (exact Bool.noConfusion h) | skip
    rename_i x pos
    unfold tgB at h
    simp only [Bool.and_eq_true, Bool.or_eq_true, decide_eq_true_eq] at h
    obtain ⟨h1, h2⟩ := hst x h.2
    exact pg_name hN (by rw [eN]; exact h.1) h1 h2
  | .tp l, tg, h => by
    cases tg <;> first | (exact Bool.noConfusion h) | skip
    rename_i es k pos
    unfold tgB at h
    simp only [Bool.and_eq_true, decide_eq_true_eq, List.all_eq_true] at h
    obtain ⟨hl, h⟩ := h
    have names : ∀ p ∈ l.zip es, ∃ x pos, p.2 = .Name x pos ∧ X.N[p.1]? = some x ∧ StOk X x := fun p hp => by
      have q := h p hp
      obtain ⟨i, e⟩ := p
      cases e <;> first | (exact Bool.noConfusion q) | skip
      rename_i x pos
      simp only [Bool.and_eq_true, Bool.or_eq_true, decide_eq_true_eq] at q
      exact ⟨x, pos, rfl, by rw [eN]; exact q.1, hst x q.2⟩
    have isN : ∀ e ∈ es, isNameB e = true := fun e he => by
      obtain ⟨n, hn, e1⟩ := List.mem_iff_getElem.mp he
      have hn2 : n < l.length := by omega
      obtain ⟨x, pos, e2, _⟩ := names (l[n], es[n]) (by
        rw [List.mem_iff_getElem]
        exact ⟨n, by simp; omega, by simp⟩)
      have e2 : es[n] = .Name x pos := e2
      rw [← e1, e2]
      rfl
    have ea := each_names (env := X.env) isN
    refine pg_tup hc (pgs_names hN hl names) (by rw [ea, List.length_map]; exact hl) ?_
    rw [ea, List.findIdx?_eq_none_iff]
    intro x hx
    obtain ⟨e, _, rfl⟩ := List.mem_map.mp hx
    rfl
section
variable {K : PySem.W.Frag} {H : Hp} {ρ : En} {σ : L2.St} {d : D} {v : V}
theorem RE.set (h : RE K H ρ σ) (r : RV K H d v) (i : Nat) : RE K H (ρ.set i (some d)) (σ.set i (some v)) := by
  refine ⟨by simp [h.1], fun j e q => ?_⟩
  by_cases hj : i = j
  · subst hj
    by_cases hi : i < ρ.length
    · rw [List.getElem?_set_self hi] at q
      cases q
      exact ⟨v, by rw [List.getElem?_set_self (by rw [← h.1]; exact hi)], r⟩
    · rw [List.getElem?_eq_none (by simpa using hi)] at q
      cases q
  · rw [List.getElem?_set_ne hj] at q ⊢
    exact h.2 j e q
theorem RE.setNone (h : RE K H ρ σ) (i : Nat) : RE K H (ρ.set i none) (σ.set i none) := by
  refine ⟨by simp [h.1], fun j e q => ?_⟩
  by_cases hj : i = j
  · subst hj
    by_cases hi : i < ρ.length
    · rw [List.getElem?_set_self hi] at q
      cases q
    · rw [List.getElem?_eq_none (by simpa using hi)] at q
      cases q
  · rw [List.getElem?_set_ne hj] at q ⊢
    exact h.2 j e q
theorem RE.wipe (h : RE K H ρ σ) : ∀ l : List Nat, RE K H (wipeD ρ l) (wipe σ l)
  | [] => h
  | i :: l => (RE.wipe h l).setNone i
theorem RE.fold : ∀ {l : List Nat} {xs : List D} {vs : List V} {ρ : En} {σ : L2.St}, RE K H ρ σ → RP K H xs vs →
    RE K H ((l.zip xs).foldl (fun ρ p => ρ.set p.1 (some p.2)) ρ) ((l.zip vs).foldl (fun σ p => σ.set p.1 (some p.2)) σ)
  | [], _, _, _, _, h, _ => h
  | _ :: _, _, _, _, _, h, .nil => h
  | i :: l, _, _, _, _, h, .cons r t => by
    have q := RE.fold (l := l) (RE.set h r i) t
    exact q
/-- a datum comes to a target -/
theorem tg_rv {t : Tg} {Pq : En → Prop} {Q : L2.St → Hp → Prop} (re : RE K H ρ σ) (r : RV K H d v) (h : tgD t d ρ Pq) (hQ : ∀ ρ' σ', RE K H ρ' σ' → Pq ρ' → (∀ own : List Nat, tgIn own t = true → L2.wipe σ' own = L2.wipe σ own) → Q σ' H) :
    gT K t v σ H Q := by
  have set_wipe : ∀ (own : List Nat) (σ : L2.St) (i : Nat) (o : Option V), i ∈ own → L2.wipe (σ.set i o) own = L2.wipe σ own := by
    intro own
    induction own with
    | nil => intro σ i o h; cases h
    | cons j own ih =>
      intro σ i o h
      unfold L2.wipe
      by_cases hi : i ∈ own
      · rw [ih σ i o hi]
      · have e : i = j := by
          rcases List.mem_cons.mp h with h | h
          · exact h
          · exact absurd h hi
        subst e
        clear ih h
        -- the slot is wiped in the end
        have gen : ∀ (own : List Nat) (σ : L2.St), (L2.wipe (σ.set i o) own).set i none = (L2.wipe σ own).set i none := by
          intro own
          induction own with
          | nil => intro σ; simp [L2.wipe]
          | cons j own ih =>
            intro σ
            unfold L2.wipe
            by_cases e : j = i
            · subst e
              simp only [List.set_set]
              exact ih σ
            · rw [List.set_comm _ _ e, List.set_comm _ _ e, ih σ]
        exact gen own σ
  cases t with
  | nm i => exact hQ _ _ (re.set r i) h fun own ho => set_wipe own σ i _ (of_decide_eq_true ho)
  | tp l =>
    obtain ⟨xs, rfl, hl, h⟩ := h
    obtain ⟨a, vs, rfl, sq, rp⟩ := r.tup
    refine ⟨a, vs, rfl, sq, by rw [← P.len rp]; exact hl, by rw [← P.len rp]; exact hl, hQ _ _ (re.fold rp) h fun own ho => ?_⟩
    have ho : ∀ i ∈ l, i ∈ own := fun i hi => of_decide_eq_true (List.all_eq_true.mp ho i hi)
    have fw : ∀ (l : List Nat) (vs : List V) (σ : L2.St), (∀ i ∈ l, i ∈ own) → L2.wipe ((l.zip vs).foldl (fun σ p => σ.set p.1 (some p.2)) σ) own = L2.wipe σ own := by
      intro l
      induction l with
      | nil => intro vs σ _; rfl
      | cons i l ih =>
        intro vs σ ho
        cases vs with
        | nil => rfl
        | cons v vs =>
          show L2.wipe ((l.zip vs).foldl (fun σ p => σ.set p.1 (some p.2)) (σ.set i (some v))) own = _
          rw [ih vs _ fun j hj => ho j (List.mem_cons_of_mem _ hj)]
          exact set_wipe own σ i _ (ho i List.mem_cons_self)
    exact fw l vs σ ho
end

/-! ### walks -/
/-- a walk of the layer yields these items, as long as the guard holds -/
def JOk (K : PySem.W.Frag) (cls : Nat → Addr) (H1 : Hp) (J : It) (items : List D) (g : Sto → Prop) : Prop :=
  (∀ i S H, items.length ≤ i → TK K H1 H → RS K H cls S → g S → J.stop i H) ∧
  ∀ (i : Nat) (x : D) (S : Sto) (H : Hp), items[i]? = some x → TK K H1 H → RS K H cls S → g S → J.go i H ∧ ∀ v H', J.yld i H v H' → TK K H H' ∧ RS K H' cls S ∧ RV K H' x v
def lftI (K : PySem.W.Frag) (cls : Nat → Addr) (W : WX) (k : IK) (m : WE') : TI := fun σ H R =>
  ∃ (ρ : En) (S : Sto) (rr : Sto → List D → (Sto → Prop) → Prop) (x : XD), RE K H ρ σ ∧ RS K H cls S ∧ m ρ S (fun d S1 => itrD k d S1 (rr S1)) x ∧
    (∀ (S1 : Sto) (H1 : Hp) (items : List D) (g : Sto → Prop) (J : It), TK K H H1 → RS K H1 cls S1 → rr S1 items g → JOk K cls H1 J items g → R J H1) ∧ XL K cls H x fun c a H' => W c a σ H'
section
variable {X : Cx} {tg : Expr}
theorem pi_any {l : Expr} {tl : TE} (hl : PE X l tl) : PI X tg l (fun σ H R => tl σ H fun x H1 => (∃ z, x = .str z ∧ R (Its z) H1) ∨ (∃ a, x = .ref a ∧ (∃ xs, SqL X.K H1 a xs) ∧ R (Itl X.K a) H1) ∨ ∃ a, x = .ref a ∧ (∃ xs, SqT X.K H1 a xs) ∧ R (Itt X.K a) H1) := by
  refine ⟨fun pins s σ H R I h => ?_⟩
  refine thn (hl.run pins s σ H _ I h) fun v s1 ⟨x, H1, I1, r1, q1⟩ => ?_
  rcases q1 with ⟨z, e, q⟩ | ⟨a, e, ⟨xs, hq⟩, q⟩ | ⟨a, e, ⟨xs, hq⟩, q⟩
  · subst e
    obtain ⟨t, rfl⟩ := r1
    cases ha : z.cps.all (· < 128)
    · exact wpAny_pyIter_wide ha (pi_one (tk := s1.toks) I1 _ (turn_str _ z t "str_iterator" (.inr rfl)) ⟨_, Heap.get?_push_size _ rfl, rfl, rfl⟩ q)
    · exact wpAny_pyIter_ascii ha (pi_one (tk := s1.toks) I1 _ (turn_str _ z t "str_ascii_iterator" (.inl rfl)) ⟨_, Heap.get?_push_size _ rfl, rfl, rfl⟩ q)
  · subst e
    cases r1
    obtain ⟨its, rv, p, hz⟩ := I1.list hq
    refine wpAny_pyIter_list p.isList ?_
    refine ⟨s1.heap.objs.size, [s1.heap.objs.size], _, _, H1, rfl, I1.kept (t' := s1.toks) fun b o e => Heap.get?_push_of_some _ e, turn_list a _, ⟨_, Heap.get?_push_size _ rfl, rfl, rfl⟩, fun b hb => ?_, q⟩
    have e : b = s1.heap.objs.size := by simpa using hb
    subst e
    exact I1.fpOk (Nat.le_refl _) (I1.hok.fresh (Nat.le_refl _))
  · subst e
    cases r1
    obtain ⟨its, rv, p, hz⟩ := I1.tuple hq
    refine wpAny_pyIter_tuple (show s1.heap.IsTuple a its.toArray from p) ?_
    refine ⟨s1.heap.objs.size, [s1.heap.objs.size], _, _, H1, rfl, I1.kept (t' := s1.toks) fun b o e => Heap.get?_push_of_some _ e, turn_tuple a _, ⟨_, Heap.get?_push_size _ rfl, rfl, rfl⟩, fun b hb => ?_, q⟩
    have e : b = s1.heap.objs.size := by simpa using hb
    subst e
    exact I1.fpOk (Nat.le_refl _) (I1.hok.fresh (Nat.le_refl _))
variable {K : PySem.W.Frag} {cls : Nat → Addr} {H1 : Hp}
theorem jok_str (z : Str) : JOk K cls H1 (Its z) (z.cps.toList.map fun c => .str ⟨#[c]⟩) (fun _ => True) := by
  refine ⟨fun i S H hi _ _ _ => ?_, fun i x S H hx _ rs _ => ⟨?_, fun v H' hy => ?_⟩⟩
  · show z.cps.size ≤ i
    simpa using hi
  · show i < z.cps.size
    have := (List.getElem?_eq_some_iff.mp hx).1
    simpa using this
  · obtain ⟨rfl, c, hc, rfl⟩ := hy
    refine ⟨.refl, rs, ?_⟩
    rw [List.getElem?_map, Array.getElem?_toList, hc] at hx
    cases hx
    exact RV.str'
theorem jok_lst {a : Addr} {xs : List D} : JOk K cls H1 (Itl K a) xs (fun S' => lstOf S' a = some xs) := by
  refine ⟨fun i S H hi _ rs g => ?_, fun i x S H hx _ rs g => ?_⟩
  · obtain ⟨_, vs, e, rp⟩ := rs.lstOf g
    exact ⟨vs, .inl (.inl e), by rw [← P.len rp]; exact hi⟩
  · obtain ⟨_, vs, e, rp⟩ := rs.lstOf g
    obtain ⟨w, hw, r⟩ := P.get rp hx
    refine ⟨⟨vs, w, .inl (.inl e), hw⟩, fun v H' hy => ?_⟩
    obtain ⟨rfl, f⟩ := hy
    have := f vs (.inl (.inl e))
    rw [hw] at this
    cases this
    exact ⟨.refl, rs, r⟩
theorem jok_tup {a : Addr} {xs : List D} {vs : List V} (sq : SqT K H1 a vs) (rp : RP K H1 xs vs) : JOk K cls H1 (Itt K a) xs (fun _ => True) := by
  refine ⟨fun i S H hi t rs _ => ⟨vs, t.1 _ _ sq, by rw [← P.len rp]; exact hi⟩, fun i x S H hx t rs _ => ?_⟩
  obtain ⟨w, hw, r⟩ := P.get (rp.mono t) hx
  refine ⟨⟨vs, w, t.1 _ _ sq, hw⟩, fun v H' hy => ?_⟩
  obtain ⟨rfl, f⟩ := hy
  have := f vs (t.1 _ _ sq)
  rw [hw] at this
  cases this
  exact ⟨.refl, rs, r⟩
theorem jok_fl {a : Addr} {xs : List D} {vs : List V} (sq : FzL K H1 a vs) (rp : RP K H1 xs vs) : JOk K cls H1 (Itl K a) xs (fun _ => True) := by
  refine ⟨fun i S H hi t rs _ => ⟨vs, (t.2 _ _ sq).sq, by rw [← P.len rp]; exact hi⟩, fun i x S H hx t rs _ => ?_⟩
  obtain ⟨w, hw, r⟩ := P.get (rp.mono t) hx
  refine ⟨⟨vs, w, (t.2 _ _ sq).sq, hw⟩, fun v H' hy => ?_⟩
  obtain ⟨rfl, f⟩ := hy
  have := f vs (t.2 _ _ sq).sq
  rw [hw] at this
  cases this
  exact ⟨.refl, rs, r⟩
theorem jok_rng {lo : Int} {n : Nat} : JOk K cls H1 (Itr lo n) ((List.range n).map fun m => .int (lo + (m : Nat))) (fun _ => True) := by
  refine ⟨fun i S H hi _ _ _ => ?_, fun i x S H hx _ rs _ => ⟨?_, fun v H' hy => ?_⟩⟩
  · show n ≤ i
    simpa using hi
  · show i < n
    have := (List.getElem?_eq_some_iff.mp hx).1
    simpa using this
  · obtain ⟨rfl, rfl⟩ := hy
    refine ⟨.refl, rs, ?_⟩
    rw [List.getElem?_map] at hx
    obtain ⟨m, hm, rfl⟩ := Option.map_eq_some_iff.mp hx
    have : m = i := by
      rw [List.getElem?_range] at hm <;> first | exact (Option.some.inj hm).symm | skip
      have := (List.getElem?_eq_some_iff.mp hm).1
      simpa using this
    subst this
    exact RV.int'
end
end DL

set_option Elab.async false
set_option linter.all false
set_option maxRecDepth 100000
/-! DLf: soundness of expressions -/
namespace DL
open PySem PySem.Spec PyProof.Rows L2

theorem eqD_mono {d e : D} {S : Sto} {p p' : Bool → Prop} (i : ∀ k, p k → p' k) (h : eqD d e S p) : eqD d e S p' := by
  unfold eqD at h ⊢
  split at h
  · exact i _ h
  · exact i _ h
  · exact i _ h
  · obtain ⟨a, b, h1, h2, h3, h4, h⟩ := h
    exact ⟨a, b, h1, h2, h3, h4, i _ h⟩
theorem inD_mono {n : Bool} {d e : D} {S : Sto} {p p' : Bool → Prop} (i : ∀ k, p k → p' k) (h : inD n d e S p) : inD n d e S p' := by
  unfold inD at h ⊢
  split at h
  · split at h
    · rcases h with ⟨c, h1, h⟩ | h
      · exact .inl ⟨c, h1, i _ h⟩
      · exact .inr (i _ h)
    · exact h
  · rcases h with ⟨xs, h1, h2, h3, h⟩ | ⟨a, kvs, k, h1, h2, h3, h⟩
    · exact .inl ⟨xs, h1, h2, h3, i _ h⟩
    · exact .inr ⟨a, kvs, k, h1, h2, h3, i _ h⟩
theorem isD_mono {d e : D} {p p' : Bool → Prop} (i : ∀ k, p k → p' k) (h : isD d e p) : isD d e p' := by
  unfold isD at h ⊢
  split at h
  · exact i _ h
  · split at h
    · exact i _ h
    · exact h
  · exact h
theorem cmpD_mono {op : CmpOp} {d e : D} {S : Sto} {p p' : Bool → Prop} (i : ∀ k, p k → p' k) (h : cmpD op d e S p) : cmpD op d e S p' := by
  cases op with
  | Eq =>
    unfold cmpD eqK at h ⊢
    simp only at h ⊢
    split at h
    · rcases h with h | ⟨kvs, h1, h2, h3, h4, h⟩
      · exact .inl (eqD_mono i h)
      · exact .inr ⟨kvs, h1, h2, h3, h4, i _ h⟩
    · exact eqD_mono i h
  | NotEq => exact eqD_mono (fun k => i (!k)) h
  | In => exact inD_mono i h
  | NotIn => exact inD_mono i h
  | Is => exact isD_mono i h
  | IsNot => exact isD_mono (fun k => i (!k)) h
  | _ =>
    unfold cmpD at h ⊢
    simp only at h ⊢
    split at h <;> first | exact i _ h | exact h
section
variable {X : Cx} {cls : Nat → Addr} {W : WX} {ma mb mc : WE'} {a b c : Expr} {pos : Pos}
/-- from one asking to the next -/
theorem pt_plain {m m' : WE'} (he : PE X a (lft X.K cls W m)) (hm : ∀ ρ S q x, m' ρ S q x → m ρ S (tm .t q) x) (hp : ∀ whole, isTrue a X.env whole = (do let v ← whole; standAt a.pos; holding [v] (truthy v))) :
    PT X a (lftT X.K cls W m') :=
  PT.imp (pt_truth he hp) fun σ H Q ⟨ρ, S, q, x, re, rs, h, ql, xl⟩ => ⟨ρ, S, _, x, re, rs, hm _ _ _ _ h, fun d S' v H' t rs' rv hd => by
    obtain ⟨k, tv, hq⟩ := tru_rv rs' rv (show truD d S' (fun b => q (.bl b) S') from hd)
    obtain ⟨k', e, hQ⟩ := ql _ _ _ t rs' hq
    cases e
    exact ⟨k, tv, hQ⟩, xl⟩
theorem pe_c {d : D} {v : V} (h : PE X a (tC v)) (r : ∀ H, RV X.K H d v) : PE X a (lft X.K cls W fun _ S q _ => q d S) :=
  PE.imp h fun σ H Q ⟨ρ, S, q, x, re, rs, hq, ql, _⟩ => ql.here rs (r H) hq
theorem pe_bin {op : Operator} {md : D → D → Sto → QD → Prop} (ha : PE X a (lft X.K cls W ma)) (hb : PE X b (lft X.K cls W mb)) (ho : OpL X cls (binaryOp op) md) :
    PE X (.BinOp a op b pos) (lft X.K cls W fun ρ S q x => ma ρ S (fun d S1 => mb ρ S1 (fun e S2 => md d e S2 q) x) x) := by
  obtain ⟨r, hr, k⟩ := ho
  exact PE.imp (pe_op hr ha hb) fun σ H Q ⟨ρ, S, q, x, re, rs, h, ql, xl⟩ => ⟨ρ, S, _, x, re, rs, h, fun d S1 v H1 t1 rs1 rv1 h1 =>
    ⟨ρ, S1, _, x, re.mono t1, rs1, h1, fun e S2 w H2 t2 rs2 rv2 h2 => k d e v w S2 H2 q Q rs2 (rv1.mono t2) rv2 h2 (ql.mono (t1.trans t2)), xl.mono t1⟩, xl⟩
/-- behind two values, a third thing -/
theorem two_rv {r : R2} {md : D → D → Sto → QD → Prop} (k : ∀ (d e : D) (v w : V) (S : Sto) (H : Hp) (q : QD) (Q : VK), RS X.K H cls S → RV X.K H d v → RV X.K H e w → md d e S q → QL X.K cls H q Q → r v w H Q) {σ : L2.St} {H : Hp} {Q : VK}
    (h : lft X.K cls W (fun ρ S q x => ma ρ S (fun d S1 => mb ρ S1 (fun e S2 => md d e S2 q) x) x) σ H Q) : tOp r (lft X.K cls W ma) (lft X.K cls W mb) σ H Q := by
  obtain ⟨ρ, S, q, x, re, rs, h, ql, xl⟩ := h
  exact ⟨ρ, S, _, x, re, rs, h, fun d S1 v H1 t1 rs1 rv1 h1 => ⟨ρ, S1, _, x, re.mono t1, rs1, h1, fun e S2 w H2 t2 rs2 rv2 h2 => k d e v w S2 H2 q Q rs2 (rv1.mono t2) rv2 h2 (ql.mono (t1.trans t2)), xl.mono t1⟩, xl⟩
theorem pe_cmpL {op : CmpOp} {md : D → D → Sto → QD → Prop} (hm : behindInMarks op b = false) (ha : PE X a (lft X.K cls W ma)) (hb : PE X b (lft X.K cls W mb)) (ho : OpL X cls (compareOp op) md) :
    PE X (.Compare a [op] [b] pos) (lft X.K cls W fun ρ S q x => ma ρ S (fun d S1 => mb ρ S1 (fun e S2 => md d e S2 q) x) x) := by
  obtain ⟨r, hr, k⟩ := ho
  exact PE.imp (pe_cmpR hr ha hb hm) fun σ H Q h => two_rv k h
theorem pt_cmpL {op : CmpOp} (hm : behindInMarks op b = false) (ha : PE X a (lft X.K cls W ma)) (hb : PE X b (lft X.K cls W mb)) (ho : OpL X cls (compareOp op) (fun d e S q => cmpD op d e S fun k => q (.bl k) S)) :
    PT X (.Compare a [op] [b] pos) (lftT X.K cls W fun ρ S q x => ma ρ S (fun d S1 => mb ρ S1 (fun e S2 => cmpD op d e S2 fun k => q (.bl k) S2) x) x) := by
  obtain ⟨r, hr, k⟩ := ho
  exact PT.imp (pt_cmpR hr ha hb hm) fun σ H Q ⟨ρ, S, q, x, re, rs, h, ql, xl⟩ => ⟨ρ, S, _, x, re, rs, h, fun d S1 v H1 t1 rs1 rv1 h1 =>
    ⟨ρ, S1, _, x, re.mono t1, rs1, h1, fun e S2 w H2 t2 rs2 rv2 h2 => k d e v w S2 H2 q _ rs2 (rv1.mono t2) rv2 h2 (fun z S3 u H3 t3 rs3 rv3 hz => by
      obtain ⟨kk, e, hQ⟩ := ql _ _ _ ((t1.trans t2).trans t3) rs3 hz
      subst e
      exact ⟨kk, rv3.blE, hQ⟩), xl.mono t1⟩, xl⟩
theorem qlt_ql {K : PySem.W.Frag} {H : Hp} {q : QD} {Q : Bool → Hp → Prop} (h : QLT K cls H q Q) : QL K cls H q fun x H1 => ∃ k, x = .bl k ∧ Q k H1 := fun d S' v H' t rs rv hd => by
  obtain ⟨b, e, hQ⟩ := h d S' H' t rs hd
  subst e
  exact ⟨b, rv.blE, hQ⟩
theorem chnL {o1 o2 : CmpOp} (hm : lastMarks [o1, o2] [b, c] = false) (ha : PE X a (lft X.K cls W ma)) (hb : PE X b (lft X.K cls W mb)) (hc : PE X c (lft X.K cls W mc))
    (h1 : OpL X cls (compareOp o1) (fun d e S q => cmpD o1 d e S fun k => q (.bl k) S)) (h2 : OpL X cls (compareOp o2) (fun d e S q => cmpD o2 d e S fun k => q (.bl k) S)) :
    PE X (.Compare a [o1, o2] [b, c] pos) (lft X.K cls W fun ρ S q x => ma ρ S (fun d S1 => mb ρ S1 (fun e S2 => cmpD o1 d e S2 fun k => if k = true then mc ρ S2 (fun f S3 => cmpD o2 e f S3 fun k => q (.bl k) S3) x else q (.bl false) S2) x) x) ∧
    PT X (.Compare a [o1, o2] [b, c] pos) (lftT X.K cls W fun ρ S q x => ma ρ S (fun d S1 => mb ρ S1 (fun e S2 => cmpD o1 d e S2 fun k => if k = true then mc ρ S2 (fun f S3 => cmpD o2 e f S3 fun k => q (.bl k) S3) x else q (.bl false) S2) x) x) := by
  obtain ⟨r, hr, k⟩ := h1
  obtain ⟨r', hr', k'⟩ := h2
  have rd : ∀ (σ : L2.St) (H : Hp) (Q : VK), lft X.K cls W (fun ρ S q x => ma ρ S (fun d S1 => mb ρ S1 (fun e S2 => cmpD o1 d e S2 fun k => if k = true then mc ρ S2 (fun f S3 => cmpD o2 e f S3 fun k => q (.bl k) S3) x else q (.bl false) S2) x) x) σ H Q →
      tChain r r' (lft X.K cls W ma) (lft X.K cls W mb) (lft X.K cls W mc) σ H Q := by
    intro σ H Q ⟨ρ, S, q, x, re, rs, h, ql, xl⟩
    refine ⟨ρ, S, _, x, re, rs, h, fun d S1 v H1 t1 rs1 rv1 h1 =>
      ⟨ρ, S1, _, x, re.mono t1, rs1, h1, fun e S2 w H2 t2 rs2 rv2 h2' => k d e v w S2 H2 (fun z S3 => ∃ kk, z = .bl kk ∧ if kk = true then mc ρ S3 (fun f S3 => cmpD o2 e f S3 fun k => q (.bl k) S3) x else q (.bl false) S3) _ rs2 (rv1.mono t2) rv2 ?_ ?_, xl.mono t1⟩, xl⟩
    · exact cmpD_mono (fun kk h => ⟨kk, rfl, h⟩) h2'
    · intro z S3 u H3 t3 rs3 rv3 hz
      obtain ⟨kk, rfl, hz⟩ := hz
      refine ⟨kk, rv3.blE, ?_⟩
      cases kk with
      | false => exact ql.mono ((t1.trans t2).trans t3) |>.here rs3 RV.bl' hz
      | true => exact ⟨ρ, S3, _, x, re.mono ((t1.trans t2).trans t3), rs3, hz, fun f S4 y H4 t4 rs4 rv4 h4 => k' e f w y S4 H4 q Q rs4 (rv2.mono (t3.trans t4)) rv4 h4 (ql.mono (((t1.trans t2).trans t3).trans t4)), xl.mono ((t1.trans t2).trans t3)⟩
  refine ⟨PE.imp (pe_chain hr hr' ha hb hc hm) rd, PT.imp (pt_chain hr hr' ha hb hc hm) fun σ H Q ⟨ρ, S, q, x, re, rs, h, ql, xl⟩ => ?_⟩
  exact rd σ H _ ⟨ρ, S, q, x, re, rs, h, qlt_ql ql, xl⟩
theorem pe_notL (ha : PE X a (lft X.K cls W ma)) : PE X (.UnaryOp .Not a pos) (lft X.K cls W fun ρ S q x => ma ρ S (tm .t fun d S1 => ∃ b, d = .bl b ∧ q (.bl (!b)) S1) x) :=
  PE.imp (pe_notT ha) fun σ H Q ⟨ρ, S, q, x, re, rs, h, ql, xl⟩ => ⟨ρ, S, _, x, re, rs, h, fun d S' v H' t rs' rv hd => by
    obtain ⟨k, tv, b, e, hq⟩ := tru_rv (k := fun b => ∃ c, D.bl b = .bl c ∧ q (.bl (!c)) S') rs' rv hd
    cases e
    exact ⟨k, tv, ql _ _ _ _ t rs' RV.bl' hq⟩, xl⟩
theorem pt_notL (ha : PT X a (lftT X.K cls W ma)) : PT X (.UnaryOp .Not a pos) (lftT X.K cls W fun ρ S q x => ma ρ S (fun d S1 => ∃ b, d = .bl b ∧ q (.bl (!b)) S1) x) :=
  PT.imp (pt_not ha) fun σ H Q ⟨ρ, S, q, x, re, rs, h, ql, xl⟩ => ⟨ρ, S, _, x, re, rs, h, fun d S' H' t rs' hd => by
    obtain ⟨b, rfl, hq⟩ := hd
    obtain ⟨c, e, hQ⟩ := ql _ _ _ t rs' hq
    cases e
    exact ⟨b, rfl, hQ⟩, xl⟩
theorem pe_iteL (hc : PT X c (lftT X.K cls W mc)) (ha : PE X a (lft X.K cls W ma)) (hb : PE X b (lft X.K cls W mb)) :
    PE X (.IfExp c a b pos) (lft X.K cls W fun ρ S q x => mc ρ S (fun d S1 => ∃ k, d = .bl k ∧ if k = true then ma ρ S1 q x else mb ρ S1 q x) x) :=
  PE.imp (pe_ifExp hc ha hb) fun σ H Q ⟨ρ, S, q, x, re, rs, h, ql, xl⟩ => ⟨ρ, S, _, x, re, rs, h, fun d S' H' t rs' hd => by
    obtain ⟨k, rfl, hq⟩ := hd
    refine ⟨k, rfl, ?_⟩
    cases k with
    | true => exact ⟨ρ, S', q, x, re.mono t, rs', hq, ql.mono t, xl.mono t⟩
    | false => exact ⟨ρ, S', q, x, re.mono t, rs', hq, ql.mono t, xl.mono t⟩, xl⟩

theorem pt_iteL (hc : PT X c (lftT X.K cls W mc)) (ha : PT X a (lftT X.K cls W ma)) (hb : PT X b (lftT X.K cls W mb)) :
    PT X (.IfExp c a b pos) (lftT X.K cls W fun ρ S q x => mc ρ S (fun d S1 => ∃ k, d = .bl k ∧ if k = true then ma ρ S1 q x else mb ρ S1 q x) x) := by
  refine ⟨fun pins s σ H Q I ⟨ρ, S, q, x, re, rs, h, ql, xl⟩ => ?_⟩
  refine isTrue_IfExp (thn (hc.run pins s σ H (fun k H1 => TK X.K H H1 ∧ ∃ S1, RS X.K H1 cls S1 ∧ if k = true then ma ρ S1 q x else mb ρ S1 q x) I ⟨ρ, S, _, x, re, rs, h, fun d S' H' t rs' hd => by
    obtain ⟨k, rfl, hq⟩ := hd
    exact ⟨k, rfl, t, S', rs', hq⟩, xl⟩) fun k s1 ⟨H1, I1, t1, S1, rs1, h1⟩ => ?_)
  cases k with
  | true => exact ha.run pins s1 σ H1 Q I1 ⟨ρ, S1, q, x, re.mono t1, rs1, h1, fun d S2 H2 t2 => ql d S2 H2 (t1.trans t2), xl.mono t1⟩
  | false => exact hb.run pins s1 σ H1 Q I1 ⟨ρ, S1, q, x, re.mono t1, rs1, h1, fun d S2 H2 t2 => ql d S2 H2 (t1.trans t2), xl.mono t1⟩

/-! ### chains -/
theorem pe_andL {rest : List Expr} (ha : PE X a (lft X.K cls W ma)) (hb : PE X (.BoolOp .And (b :: rest) pos) (lft X.K cls W mb)) :
    PE X (.BoolOp .And (a :: b :: rest) pos) (lft X.K cls W fun ρ S q x => ma ρ S (fun d S1 => ∃ k, d = .bl k ∧ if k = true then mb ρ S1 q x else q (.bl false) S1) x) :=
  PE.imp (pe_and ha hb) fun σ H Q ⟨ρ, S, q, x, re, rs, h, ql, xl⟩ => ⟨ρ, S, _, x, re, rs, h, fun d S' v H' t rs' rv hd => by
    obtain ⟨k, rfl, hq⟩ := hd
    refine ⟨k, rv.blE, ?_⟩
    cases k with
    | true => exact ⟨ρ, S', q, x, re.mono t, rs', hq, ql.mono t, xl.mono t⟩
    | false => exact ql _ _ _ _ t rs' RV.bl' hq, xl⟩
theorem pe_orL {rest : List Expr} (ha : PE X a (lft X.K cls W ma)) (hb : PE X (.BoolOp .Or (b :: rest) pos) (lft X.K cls W mb)) :
    PE X (.BoolOp .Or (a :: b :: rest) pos) (lft X.K cls W fun ρ S q x => ma ρ S (fun d S1 => ∃ k, d = .bl k ∧ if k = true then q (.bl true) S1 else mb ρ S1 q x) x) :=
  PE.imp (pe_or ha hb) fun σ H Q ⟨ρ, S, q, x, re, rs, h, ql, xl⟩ => ⟨ρ, S, _, x, re, rs, h, fun d S' v H' t rs' rv hd => by
    obtain ⟨k, rfl, hq⟩ := hd
    refine ⟨k, rv.blE, ?_⟩
    cases k with
    | false => exact ⟨ρ, S', q, x, re.mono t, rs', hq, ql.mono t, xl.mono t⟩
    | true => exact ql _ _ _ _ t rs' RV.bl' hq, xl⟩
theorem pw_andL {rest : List Expr} (ha : PT X a (lftT X.K cls W ma)) (hb : PW X (.BoolOp .And (b :: rest) pos) (lftT X.K cls W mb)) :
    PW X (.BoolOp .And (a :: b :: rest) pos) (lftT X.K cls W fun ρ S q x => ma ρ S (fun d S1 => ∃ k, d = .bl k ∧ if k = true then mb ρ S1 q x else q (.bl false) S1) x) :=
  PW.imp (pw_and ha hb) fun σ H Q ⟨ρ, S, q, x, re, rs, h, ql, xl⟩ => ⟨ρ, S, _, x, re, rs, h, fun d S' H' t rs' hd => by
    obtain ⟨k, rfl, hq⟩ := hd
    refine ⟨k, rfl, ?_⟩
    cases k with
    | true => exact ⟨ρ, S', q, x, re.mono t, rs', hq, fun d S2 H2 t2 => ql d S2 H2 (t.trans t2), xl.mono t⟩
    | false =>
      obtain ⟨c, e, hQ⟩ := ql _ _ _ t rs' hq
      cases e
      exact hQ, xl⟩
theorem pw_orL {rest : List Expr} (ha : PT X a (lftT X.K cls W ma)) (hb : PW X (.BoolOp .Or (b :: rest) pos) (lftT X.K cls W mb)) :
    PW X (.BoolOp .Or (a :: b :: rest) pos) (lftT X.K cls W fun ρ S q x => ma ρ S (fun d S1 => ∃ k, d = .bl k ∧ if k = true then q (.bl true) S1 else mb ρ S1 q x) x) :=
  PW.imp (pw_or ha hb) fun σ H Q ⟨ρ, S, q, x, re, rs, h, ql, xl⟩ => ⟨ρ, S, _, x, re, rs, h, fun d S' H' t rs' hd => by
    obtain ⟨k, rfl, hq⟩ := hd
    refine ⟨k, rfl, ?_⟩
    cases k with
    | false => exact ⟨ρ, S', q, x, re.mono t, rs', hq, fun d S2 H2 t2 => ql d S2 H2 (t.trans t2), xl.mono t⟩
    | true =>
      obtain ⟨c, e, hQ⟩ := ql _ _ _ t rs' hq
      cases e
      exact hQ, xl⟩

/-! ### lists of values -/
theorem pa_nilL : PA X [] (lftA X.K cls W fun _ S q _ => q (.tup []) S) :=
  PA.imp pa_nil fun σ H Q ⟨ρ, S, q, x, re, rs, h, ql, xl⟩ => ql [] S [] H .refl rs .nil h
theorem pa_consL {es : List Expr} (hs : notStar a = true) (ha : PE X a (lft X.K cls W ma)) (hr : PA X es (lftA X.K cls W mb)) :
    PA X (a :: es) (lftA X.K cls W fun ρ S q x => ma ρ S (fun d S1 => mb ρ S1 (fun e S2 => ∃ xs, e = .tup xs ∧ q (.tup (d :: xs)) S2) x) x) :=
  PA.imp (pa_cons ha hr (star_cons hs)) fun σ H Q ⟨ρ, S, q, x, re, rs, h, ql, xl⟩ => ⟨ρ, S, _, x, re, rs, h, fun d S1 v H1 t1 rs1 rv1 h1 =>
    ⟨ρ, S1, _, x, re.mono t1, rs1, h1, fun ds S2 vs H2 t2 rs2 rp2 h2 => by
      obtain ⟨xs, e, h2⟩ := h2
      cases e
      exact ql _ _ _ _ (t1.trans t2) rs2 (.cons (rv1.mono t2) rp2) h2, xl.mono t1⟩, xl⟩
theorem pe_tupL {es : List Expr} {k : Nat} (h : PA X es (lftA X.K cls W ma)) : PE X (.Tuple es k pos) (lft X.K cls W fun ρ S q x => ma ρ S (fun d S1 => ∃ xs, d = .tup xs ∧ xs.length ≤ sizeLine ∧ q (.tup xs) S1) x) :=
  PE.imp (pe_tup h) fun σ H Q ⟨ρ, S, q, x, re, rs, h, ql, xl⟩ => ⟨ρ, S, _, x, re, rs, h, fun ds S1 vs H1 t1 rs1 rp1 h1 => by
    obtain ⟨xs, e, hl, h1⟩ := h1
    cases e
    exact ⟨by rw [← P.len rp1]; exact hl, fun p hp => (ql.mono t1).tup rs1 rp1 h1 hp⟩, xl⟩
theorem pe_lstL {es : List Expr} (h : PA X es (lftA X.K cls W ma)) : PE X (.List es pos) (lft X.K cls W fun ρ S q x => ma ρ S (fun d S1 => ∃ xs, d = .tup xs ∧ xs.length ≤ sizeLine ∧ newL xs S1 q) x) :=
  PE.imp (pe_lst h) fun σ H Q ⟨ρ, S, q, x, re, rs, h, ql, xl⟩ => ⟨ρ, S, _, x, re, rs, h, fun ds S1 vs H1 t1 rs1 rp1 h1 => by
    obtain ⟨xs, e, hl, h1⟩ := h1
    cases e
    exact ⟨by rw [← P.len rp1]; exact hl, fun p hp => (ql.mono t1).lst rs1 rp1 h1 hp⟩, xl⟩
/-! ### subscripts -/
theorem pe_idxL (hu : X.A.units + 1 < cLine) (hs : notSlice b = true) (ha : PE X a (lft X.K cls W ma)) (hb : PE X b (lft X.K cls W mb)) :
    PE X (.Subscript a b pos) (lft X.K cls W fun ρ S q x => ma ρ S (fun d S1 => mb ρ S1 (fun e S2 => idxD d e S2 q) x) x) :=
  PE.imp (ix_or_d hu ha hb (plainIx_of hs)) fun σ H Q h => two_rv (fun d e v w S H q Q rs r r' m z => idx_rv rs r r' m z) h
theorem po_L {e : Option Expr} {l : Bool} {m : WE'} (h : match l, e with | false, none => True | true, some e => PE X e (lft X.K cls W m) | _, _ => False) :
    PO X e (fun σ H Q => ∃ ρ S r x, RE X.K H ρ σ ∧ RS X.K H cls S ∧ prt l (fun Q => m ρ S Q x) S r ∧ (∀ o S' H', TK X.K H H' → RS X.K H' cls S' → r o S' → Q o H') ∧ XL X.K cls H x fun c a H' => W c a σ H') := by
  cases l with
  | false =>
    cases e with
    | none => exact ⟨fun pins s σ H Q I ⟨ρ, S, r, x, re, rs, h, k, _⟩ => po_none.run pins s σ H Q I (k _ _ _ .refl rs h)⟩
    | some e => exact h.elim
  | true =>
    cases e with
    | none => exact h.elim
    | some e => exact ⟨fun pins s σ H Q I ⟨ρ, S, r, x, re, rs, hm, k, xl⟩ => (po_some h).run pins s σ H Q I ⟨ρ, S, _, x, re, rs, hm, fun d S' v H' t rs' rv hd => by
        obtain ⟨i, rfl, hd⟩ := hd
        exact ⟨i, rv.intE, k _ _ _ t rs' hd⟩, xl⟩⟩
theorem pe_slcL {lo hi : Option Expr} {l u : Bool} {p2 : Pos} (ha : PE X a (lft X.K cls W ma)) (hl : match l, lo with | false, none => True | true, some e => PE X e (lft X.K cls W mb) | _, _ => False)
    (hh : match u, hi with | false, none => True | true, some e => PE X e (lft X.K cls W mc) | _, _ => False) :
    PE X (.Subscript a (.Slice lo hi none p2) pos) (lft X.K cls W fun ρ S q x => ma ρ S (fun d S1 => prt l (fun Q => mb ρ S1 Q x) S1 fun i S2 => prt u (fun Q => mc ρ S2 Q x) S2 fun j S3 => slcD d i j S3 q) x) :=
  PE.imp (pe_slice (SlR.or sl_str (SlR.or sl_tupA sl_list)) ha (po_L hl) (po_L hh)) fun σ H Q ⟨ρ, S, q, x, re, rs, h, ql, xl⟩ => ⟨ρ, S, _, x, re, rs, h, fun d S1 v H1 t1 rs1 rv1 h1 =>
    ⟨ρ, S1, _, x, re.mono t1, rs1, h1, fun i S2 H2 t2 rs2 h2 => ⟨ρ, S2, _, x, re.mono (t1.trans t2), rs2, h2, fun j S3 H3 t3 rs3 h3 => slc_rv rs3 (rv1.mono (t2.trans t3)) h3 (ql.mono ((t1.trans t2).trans t3)), xl.mono (t1.trans t2)⟩, xl.mono t1⟩, xl⟩
theorem pe_rvsL {k : Nat} {p1 p2 p3 : Pos} (ha : PE X a (lft X.K cls W ma)) : PE X (.Subscript a (.Slice none none (some (.UnaryOp .USub (.Constant (.int 1) k p1) p2)) p3) pos)
    (lft X.K cls W fun ρ S q x => ma ρ S (fun d S1 => ∃ xs, seqD d S1 = some xs ∧ d ≠ .tup xs ∧ newL xs.reverse S1 q) x) :=
  PE.imp (pe_revL ha) fun σ H Q ⟨ρ, S, q, x, re, rs, h, ql, xl⟩ => ⟨ρ, S, _, x, re, rs, h, fun d S1 v H1 t1 rs1 rv1 h1 => by
    obtain ⟨xs, hs, ne, h1⟩ := h1
    obtain ⟨a, vs, rfl, sq, rp⟩ := rs1.seqL rv1 hs ne
    exact ⟨a, vs, rfl, sq, fun p hp => (ql.mono t1).lst rs1 (P.rev rp) h1 hp⟩, xl⟩
theorem pe_lrvL {p p2 pos2 : Pos} (hc : X.calm = true) (hg : Gl X "list") (hm : X.mg "list" = none) (hg2 : Gl X "reversed") (hm2 : X.mg "reversed" = none) (hs : starEach [a] X.env = (false, eval a X.env) :: starEach [] X.env) (ha : PE X a (lft X.K cls W ma)) :
    PE X (.Call (.Name "list" p) [.Call (.Name "reversed" p2) [a] [] pos2] [] pos) (lft X.K cls W fun ρ S q x => ma ρ S (fun d S1 => ∃ xs, seqD d S1 = some xs ∧ newL xs.reverse S1 q) x) :=
  PE.imp (DLR.pe_listRev hc hg hm hg2 hm2 ha hs) fun σ H Q ⟨ρ, S, q, x, re, rs, h, ql, xl⟩ => ⟨ρ, S, _, x, re, rs, h, fun d S1 v H1 t1 rs1 rv1 h1 => by
    obtain ⟨xs, hs, h1⟩ := h1
    obtain ⟨a, vs, rfl, sq, rp⟩ := rs1.seqD rv1 hs
    exact ⟨a, vs, rfl, sq, fun p hp => (ql.mono t1).lst rs1 (P.rev rp) h1 hp⟩, xl⟩
theorem strsD_is : ∀ {xs : List D} {ys : List Str}, strsD xs = some ys → xs = ys.map D.str
  | [], ys, h => by cases h; rfl
  | .str x :: r, ys, h => by
    unfold strsD at h
    obtain ⟨zs, hz, e⟩ := Option.map_eq_some_iff.mp h
    subst e
    rw [strsD_is hz]; rfl
  | .non :: _, _, h => by cases h
  | .bl _ :: _, _, h => by cases h
  | .int _ :: _, _, h => by cases h
  | .tup _ :: _, _, h => by cases h
  | .fl _ :: _, _, h => by cases h
  | .ref _ :: _, _, h => by cases h
theorem rp_strs {K : PySem.W.Frag} {H : Hp} : ∀ {ys : List Str} {vs : List V}, RP K H (ys.map D.str) vs → vs = ys.map V.str
  | [], _, .nil => rfl
  | y :: ys, _, .cons r t => by rw [r.strE, rp_strs t]; rfl
theorem pe_lsetL {p p2 pos2 : Pos} (hc : X.calm = true) (hg : Gl X "len") (hm : X.mg "len" = none) (hg2 : Gl X "set") (hm2 : X.mg "set" = none) (hs : starEach [a] X.env = (false, eval a X.env) :: starEach [] X.env) (ha : PE X a (lft X.K cls W ma)) :
    PE X (.Call (.Name "len" p) [.Call (.Name "set" p2) [a] [] pos2] [] pos) (lft X.K cls W fun ρ S q x => ma ρ S (fun d S1 => ∃ xs ys, seqD d S1 = some xs ∧ strsD xs = some ys ∧ ys.length < 4000 ∧ q (.int (DLS.many ys ys.length : Nat)) S1) x) :=
  PE.imp (DLS.pe_lenSetS hc hg hm hg2 hm2 ha hs) fun σ H Q ⟨ρ, S, q, x, re, rs, h, ql, xl⟩ => ⟨ρ, S, _, x, re, rs, h, fun d S1 v H1 t1 rs1 rv1 h1 => by
    obtain ⟨xs, ys, hs, hy, hl, h1⟩ := h1
    obtain ⟨a, vs, rfl, sq, rp⟩ := rs1.seqD rv1 hs
    rw [strsD_is hy] at rp
    rw [rp_strs rp] at sq
    exact ⟨a, ys, rfl, sq, hl, ql.mono t1 |>.here rs1 RV.int' h1⟩, xl⟩
/-! ### calls -/
theorem pe_callL {k : Nat} {f : Call} {n : Nat} {fa : Addr} {fd : FuncData} {ps : List Str} {x : Str} {e : Expr} {es : List Expr} {p : Pos} (tk : Takes X W)
    (F : FnOk X.prog X.w X.K X.mg X.base (L2.CX X.prog X.w) k fa fd ps (lsp X.K cls (f n))) (hr : Room k X.A) (hg : Gl X x) (hm : X.mg x = some (.ref fa)) (hk : PySem.W.keepIn X.K (.ref fa) = true) (hb : Binds X.K fd ps [])
    (ha : PA X (e :: es) (lftA X.K cls W ma)) (hdb : (x == ("__debug__" : Str)) = false) (he : starEach (e :: es) X.env = (false, eval e X.env) :: starEach es X.env) (hpl : (backTo pos (starEach es X.env)).any (·.1) = false) :
    PE X (.Call (.Name x p) (e :: es) [] pos) (lft X.K cls W fun ρ S q x => ma ρ S (fun d S1 => ∃ xs, d = .tup xs ∧ f n xs S1 q x) x) :=
  PE.imp (pe_callS F hr hg hm hk hb (fun σ => passAt tk σ) ha hdb he hpl) fun σ H Q ⟨ρ, S, q, x, re, rs, h, ql, xl⟩ => ⟨ρ, S, _, x, re, rs, h, fun ds S1 vs H1 t1 rs1 rp1 h1 => by
    obtain ⟨xs, e, h1⟩ := h1
    cases e
    exact ⟨ds, S1, q, x, rp1, rs1, h1, ql.mono t1, xl.mono t1⟩, xl⟩
theorem pe_bltL {fv : Value} {md : List D → Sto → QD → Prop} {x : Str} {e : Expr} {es : List Expr} {p : Pos} (hv : (∃ id, fv = .builtin id) ∨ ∃ T, fv = .type T) (hc : CallL X cls fv md) (hg : Gl X x) (hm : X.mg x = none) (hb : bootBuiltins x = some fv)
    (ha : PA X (e :: es) (lftA X.K cls W ma)) (hn : x ≠ "__name__") (hdb : (x == ("__debug__" : Str)) = false) (he : starEach (e :: es) X.env = (false, eval e X.env) :: starEach es X.env) (hpl : (backTo pos (starEach es X.env)).any (·.1) = false) :
    PE X (.Call (.Name x p) (e :: es) [] pos) (lft X.K cls W fun ρ S q x => ma ρ S (fun d S1 => ∃ xs, d = .tup xs ∧ md xs S1 q) x) := by
  obtain ⟨r, hr, k⟩ := hc
  have base : PE X (.Call (.Name x p) (e :: es) [] pos) (tCB r (lftA X.K cls W ma)) := by
    rcases hv with ⟨id, rfl⟩ | ⟨T, rfl⟩
    · exact pe_callB hr hg hm hb ha hn hdb he hpl
    · exact pe_callTy hr hg hm hb ha hn hdb he hpl
  exact PE.imp base fun σ H Q ⟨ρ, S, q, x, re, rs, h, ql, xl⟩ => ⟨ρ, S, _, x, re, rs, h, fun ds S1 vs H1 t1 rs1 rp1 h1 => by
    obtain ⟨xs, e, h1⟩ := h1
    cases e
    exact k ds vs S1 H1 q Q rs1 rp1 h1 (ql.mono t1), xl⟩
/-! ### methods -/
theorem pe_mthL (m : Mth) {n : Str} {vs : List Expr} {p q : Pos} {o : Expr} (hn : n = Str.ofString m.name) (hb : notCall0 o = true) (hl : (p.endLine == q.line) = true) (h25 : vs.length < 25) (ho : PE X o (lft X.K cls W ma)) (hs : starEach vs X.env = vs.map fun x => (false, eval x X.env))
    (ha : PA X vs (lftA X.K cls W mb)) (h0 : vs = [] → ∀ ρ S q x, mb ρ S q x → q (.tup []) S) : PE X (.Call (.Attribute o n p) vs [] q)
      (lft X.K cls W fun ρ S q x => ma ρ S (fun o S1 => tyD m.ty o S1 ∧ mb ρ S1 (fun d S2 => ∃ xs, d = .tup xs ∧ mthD m o xs S2 q) x) x) := by
  obtain ⟨r, hr, k⟩ := ml_mth (X := X) (cls := cls) m
  have fin : ∀ (σ : L2.St) (H : Hp) (Q : VK), lft X.K cls W (fun ρ S q x => ma ρ S (fun o S1 => tyD m.ty o S1 ∧ mb ρ S1 (fun d S2 => ∃ xs, d = .tup xs ∧ mthD m o xs S2 q) x) x) σ H Q → tBM X.K m.ty.name r (lft X.K cls W ma) (lftA X.K cls W mb) σ H Q := by
    intro σ H Q ⟨ρ, S, q, x, re, rs, h, ql, xl⟩
    exact ⟨ρ, S, _, x, re, rs, h, fun d S1 v H1 t1 rs1 rv1 h1 => ⟨ty_rv rs1 rv1 h1.1, ρ, S1, _, x, re.mono t1, rs1, h1.2, fun ds S2 ws H2 t2 rs2 rp2 h2 => by
      obtain ⟨xs, e, h2⟩ := h2
      cases e
      exact k d ds v ws S2 H2 q Q rs2 (rv1.mono t2) rp2 h2 (ql.mono (t1.trans t2)), xl.mono t1⟩, xl⟩
  subst hn
  have gen : ∀ {T id : String} {nm : Str}, PlainAttrs T → Slot T nm id → typeOf (.builtin id) = pure (.type "method_descriptor") → MtR X id r → PE X (.Call (.Attribute o nm p) vs [] q) (tBM X.K T r (lft X.K cls W ma) (lftA X.K cls W mb)) := by
    intro T id nm pa slot hty hr
    cases vs with
    | cons e es =>
      refine pe_bm pa slot hty hr ho ha (base_of hb) ?_ hl ?_ ?_
      · rw [hs]
        have h1 : decide ((e :: es).length + ([] : List Keyword).length + (if ([] : List Keyword).isEmpty then 0 else 1) < 30) = true := decide_eq_true (by simp at h25 ⊢; omega)
        rw [h1]
        unfold backTo
        simp [backToKw, keywordEach]
      · rw [hs]
        have : starEach es X.env = es.map fun x => (false, eval x X.env) := by
          cases e <;> first | (simp [starEach] at hs; done) | (injection hs with _ h2) <;> exact h2
        rw [this]
        rfl
      · have : starEach es X.env = es.map fun x => (false, eval x X.env) := by
          cases e <;> first | (simp [starEach] at hs; done) | (injection hs with _ h2) <;> exact h2
        rw [this]
        unfold backTo
        simp
    | nil =>
      refine ⟨fun pins s σ H Q I h => ?_⟩
      refine wpAny_Call_method0_late (base_of hb) hl (thn (ho.run pins s σ H _ I h) fun v s1 ⟨x, H1, I1, r1, ty, q1⟩ => ?_)
      obtain ⟨h1, h2⟩ := tyV_is I1 r1 ty
      obtain ⟨ρ, S, qq, xx, re, rs, hm, ql, xl⟩ := q1
      have q2 := ql [] S [] H1 .refl rs .nil (h0 rfl ρ S qq xx hm)
      exact ⟨T, id, pa, slot, hty, h1, h2, Calls.callWith_builtin rfl (PySem.evalArgs_none (hr pins s1 σ H1 x [] v [] Q I1 r1 .nil q2))⟩
  refine PE.imp (t := tBM X.K m.ty.name r (lft X.K cls W ma) (lftA X.K cls W mb)) ?_ fin
  cases m with
  | append => exact gen PySem.F.plainAttrs_list PySem.F.slot_list_append PySem.F.type_list_append hr
  | extend => exact gen PySem.F.plainAttrs_list PySem.F.slot_list_extend PySem.F.type_list_extend hr
  | pop => exact gen PySem.F.plainAttrs_list PySem.F.slot_list_pop PySem.F.type_list_pop hr
  | popAt => exact gen PySem.F.plainAttrs_list PySem.F.slot_list_pop PySem.F.type_list_pop hr
  | reverse => exact gen PySem.F.plainAttrs_list PySem.F.slot_list_reverse PySem.F.type_list_reverse hr
  | clear => exact gen PySem.F.plainAttrs_list PySem.F.slot_list_clear PySem.F.type_list_clear hr
  | insert => exact gen PySem.F.plainAttrs_list PySem.F.slot_list_insert PySem.F.type_list_insert hr
  | join => exact gen PySem.F.plainAttrs_str PySem.F.slot_str_join PySem.F.type_str_join hr
  | sindex => exact gen PySem.F.plainAttrs_str PySem.F.slot_str_index PySem.F.type_str_index hr
  | split => exact gen PySem.F.plainAttrs_str PySem.F.slot_str_split PySem.F.type_str_split hr
  | partition => exact gen PySem.F.plainAttrs_str PySem.F.slot_str_partition PySem.F.type_str_partition hr
  | startswith => exact gen PySem.F.plainAttrs_str PySem.F.slot_str_startswith PySem.F.type_str_startswith hr
  | replace => exact gen PySem.F.plainAttrs_str PySem.F.slot_str_replace PySem.F.type_str_replace hr
  | count => exact gen PySem.F.plainAttrs_str PySem.F.slot_str_count PySem.F.type_str_count hr
  | zfill => exact gen PySem.F.plainAttrs_str PySem.F.slot_str_zfill PySem.F.type_str_zfill hr

/-! ### isinstance, displays of dicts, comprehensions -/
theorem pe_isiL {t : Bc} {x z : Str} {p p2 : Pos} (hx : x = "isinstance") (hz : z = Str.ofString t.name) (hs : notStar a = true) (ha : PE X a (lft X.K cls W ma)) (hg : Gl X x) (hm : X.mg x = none) (hg2 : Gl X z) (hm2 : X.mg z = none) (ht : t ≠ .non)
    (hdb : (z == ("__debug__" : Str)) = false) (hn : z ≠ "__name__") :
    PE X (.Call (.Name x p) [a, .Name z p2] [] pos) (lft X.K cls W fun ρ S q x => ma ρ S (fun d S1 => ∃ b, isiD d [.b t] S1 = some b ∧ q (.bl b) S1) x) := by
  subst hx hz
  have hv : bootBuiltins (Str.ofString t.name) = some (.type t.name) := by
    cases t <;> first | exact absurd rfl ht | decide +kernel
  have hty : PE X (.Name (Str.ofString t.name) p2) (tC (.ty t.name)) := pe_bltn hg2 hm2 hv rfl hn hdb
  have hs2 : starEach [a, .Name (Str.ofString t.name) p2] X.env = (false, eval a X.env) :: starEach [.Name (Str.ofString t.name) p2] X.env := star_cons hs
  refine PE.imp (pe_callB call_isB hg hm (by decide +kernel) (pa_cons ha (pa_cons hty pa_nil) hs2) (by decide) (by decide) hs2 rfl) fun σ H Q ⟨ρ, S, q, x, re, rs, h, ql, xl⟩ => ⟨ρ, S, _, x, re, rs, h, fun d S1 v H1 t1 rs1 rv1 h1 => ?_, xl⟩
  obtain ⟨b, hb, h1⟩ := h1
  unfold isiD at hb
  cases e : clsD d S1 with
  | none => rw [e] at hb; cases hb
  | some c =>
    rw [e] at hb
    cases hb
    exact ⟨v, c, t, rfl, cls_rv rs1 rv1 e, ql _ _ _ _ t1 rs1 RV.bl' h1⟩
theorem keyLit_of {X : Cx} {e : Option Expr} {k : Key} (h : keyLit e = some k) : ∃ e', e = some e' ∧ PE X e' (tC (kV k)) := by
  unfold keyLit at h
  split at h
  · cases h; exact ⟨_, rfl, pe_int⟩
  · cases h; exact ⟨_, rfl, pe_str⟩
  · cases h
theorem refK_cons {X : Cx} {k : Key} {kk : List Key} {e : Option Expr} {ks : List (Option Expr)} (h : refK (k :: kk) (e :: ks) = true) : (∃ e', e = some e' ∧ PE X e' (tC (kV k))) ∧ refK kk ks = true := by
  unfold refK at h
  simp only [Bool.and_eq_true, decide_eq_true_eq] at h
  exact ⟨keyLit_of h.1, h.2⟩
theorem refK_len : ∀ {kk : List Key} {ks : List (Option Expr)}, refK kk ks = true → kk.length = ks.length ∧ ks.all (·.isSome) = true
  | [], [], _ => ⟨rfl, rfl⟩
  | [], _ :: _, h => by cases h
  | _ :: _, [], h => by cases h
  | k :: kk, e :: ks, h => by
    unfold refK at h
    simp only [Bool.and_eq_true, decide_eq_true_eq] at h
    obtain ⟨h1, h2⟩ := refK_len h.2
    refine ⟨by rw [List.length_cons, List.length_cons, h1], ?_⟩
    rw [List.all_cons, h2]
    cases e with
    | none => have := h.1; cases this
    | some e => rfl
theorem zip_rv {K : PySem.W.Frag} {H : Hp} : ∀ {kk : List Key} {ys : List D} {vs : List V}, RP K H ys vs → KP K H (kk.zip ys) (kk.zip vs)
  | [], _, _, _ => .nil
  | _ :: _, _, _, .nil => .nil
  | _ :: _, _, _, .cons r t => .cons ⟨rfl, r⟩ (zip_rv t)
/-- displays of dicts: the values' part -/
def PPok (X : Cx) (cls : Nat → Addr) (W : WX) (m : WE') (es : List Expr) : Prop := ∀ (pos : Pos) (kk : List Key) (ks : List (Option Expr)), refK kk ks = true → ks.length = es.length →
  ∃ trs, PPs X pos ks es trs ∧ ∀ (σ : L2.St) (H : Hp) (R : List (V × V) → Hp → Prop), lftA X.K cls W m σ H (fun vs H2 => R ((kk.zip vs).map fun kv => (kV kv.1, kv.2)) H2) → tPairs trs σ H R
theorem ppok_nil : PPok X cls W (fun _ S q _ => q (.tup []) S) [] := fun pos kk ks h hl => by
  cases ks with
  | cons => simp at hl
  | nil =>
    cases kk with
    | cons => cases h
    | nil => exact ⟨[], pps_nil, fun σ H Q ⟨ρ, S, q, x, re, rs, h, ql, xl⟩ => ql [] S [] H .refl rs .nil h⟩
theorem ppok_cons {es : List Expr} (ha : PE X a (lft X.K cls W ma)) (hr : PPok X cls W mb es) : PPok X cls W (fun ρ S q x => ma ρ S (fun d S1 => mb ρ S1 (fun e S2 => ∃ xs, e = .tup xs ∧ q (.tup (d :: xs)) S2) x) x) (a :: es) := fun pos kk ks h hl => by
  cases ks with
  | nil => simp at hl
  | cons k0 ks =>
    cases kk with
    | nil => cases h
    | cons k kk =>
      obtain ⟨⟨e', rfl, hk⟩, h2⟩ := refK_cons (X := X) h
      obtain ⟨trs, hp, ht⟩ := hr pos kk ks h2 (by simpa using hl)
      refine ⟨_, pps_cons hk ha hp, fun σ H R ⟨ρ, S, q, x, re, rs, h, ql, xl⟩ => ?_⟩
      show lft X.K cls W ma σ H fun y H2 => tPairs trs σ H2 fun ps H3 => R ((kV k, y) :: ps) H3
      exact ⟨ρ, S, _, x, re, rs, h, fun d S1 v H1 t1 rs1 rv1 h1 => ht σ H1 _ ⟨ρ, S1, _, x, re.mono t1, rs1, h1, fun ds S2 vs H2 t2 rs2 rp2 h2 => by
        obtain ⟨xs, e, h2⟩ := h2
        cases e
        exact ql _ _ _ _ (t1.trans t2) rs2 (.cons (rv1.mono t2) rp2) h2, xl.mono t1⟩, xl⟩
theorem pe_dicL {kk : List Key} {ks : List (Option Expr)} {es : List Expr} (hk : refK kk ks = true) (hl : ks.length = es.length) (h15 : ks.length ≤ 15) (h : PPok X cls W ma es) (h0 : es = [] → ∀ ρ S q x, ma ρ S q x → q (.tup []) S) :
    PE X (.Dict ks es pos) (lft X.K cls W fun ρ S q x => ∀ p, S p = none → ma ρ (su S p (.dk [])) (fun e S2 => ∃ ys, e = .tup ys ∧ S2 p = some (.dk []) ∧ q (.ref p) (su S2 p (.dk (mergeD [] (kk.zip ys))))) x) := by
  have put : ∀ {H : Hp} {S : Sto} {p : Addr} {u : List (Key × D)} {ws : List (Key × V)}, RS X.K H cls S → S p = some (.dk []) → KP X.K H u ws → H p = some (.dK []) ∧ TK X.K H (upd H p (.dK ws)) ∧ RS X.K (upd H p (.dK ws)) cls (su S p (.dk u)) := by
    intro H S p u ws rs e kp
    obtain ⟨ws0, e0, kp0⟩ := rs p _ e
    cases kp0
    have t : TK X.K H (upd H p (.dK ws)) := tk_mut e0 mu_dK
    exact ⟨e0, t, rs.put (o := .dk u) e0 mu_dK ⟨ws, upd_same, KP.mono t kp⟩⟩
  cases ks with
  | nil =>
    cases es with
    | cons => simp at hl
    | nil =>
      cases kk with
      | cons => cases hk
      | nil =>
        refine PE.imp pe_dnewK fun σ H Q ⟨ρ, S, q, x, re, rs, h, ql, xl⟩ p hp => ?_
        have rs1 := rs.newS (o := .dk []) (u := .dK []) hp ⟨[], upd_same, .nil⟩
        obtain ⟨ys, e, _, h1⟩ := h0 rfl _ _ _ _ (h p (rs.free hp))
        cases e
        have e2 : su (su S p (.dk [])) p (.dk (mergeD [] (([] : List Key).zip []))) = su S p (.dk []) := su_su
        rw [e2] at h1
        exact ql _ _ _ _ (tk_new hp) rs1 RV.ref' h1
  | cons k0 ks =>
    obtain ⟨e1, e2⟩ := refK_len hk
    obtain ⟨trs, hp, ht⟩ := h pos kk (k0 :: ks) hk hl
    refine PE.imp (pe_disp hp e2 hl (List.cons_ne_nil _ _) h15) fun σ H Q ⟨ρ, S, q, x, re, rs, h, ql, xl⟩ p hp => ?_
    have t0 := tk_new (K := X.K) (o := .dK []) hp
    have rs1 := rs.newS (o := .dk []) (u := .dK []) hp ⟨[], upd_same, .nil⟩
    refine ht σ _ _ ⟨ρ, _, _, x, re.mono t0, rs1, h p (rs.free hp), fun ds S2 vs H2 t2 rs2 rp2 h2 => ?_, xl.mono t0⟩
    obtain ⟨ys, e, hS, h2⟩ := h2
    cases e
    obtain ⟨e0, t3, rs3⟩ := put rs2 hS (mergeD_rv (zip_rv (kk := kk) rp2) .nil)
    refine ⟨e0, kk.zip vs, rfl, ?_, ql _ _ _ _ ((t0.trans t2).trans t3) rs3 RV.ref' h2⟩
    have := List.length_zip (l₁ := kk) (l₂ := vs)
    simp only [List.length_cons] at e1 h15
    omega
end

/-! ### walks' expressions -/
section
variable {X : Cx} {cls : Nat → Addr} {W : WX} {ma : WE'} {a : Expr} {tg : Expr}
theorem itr_any {d : D} {S1 : Sto} {H1 : Hp} {v : V} {r : List D → (Sto → Prop) → Prop} (rs : RS X.K H1 cls S1) (rv : RV X.K H1 d v) (h : itrD .all d S1 r) {R : It → Hp → Prop}
    (k : ∀ items g J, r items g → JOk X.K cls H1 J items g → R J H1) :
    (∃ z, v = .str z ∧ R (Its z) H1) ∨ (∃ a, v = .ref a ∧ (∃ xs, SqL X.K H1 a xs) ∧ R (Itl X.K a) H1) ∨ ∃ a, v = .ref a ∧ (∃ xs, SqT X.K H1 a xs) ∧ R (Itt X.K a) H1 := by
  cases d with
  | str z => exact .inl ⟨z, rv.strE, k _ _ _ h (jok_str z)⟩
  | ref a =>
    obtain ⟨xs, hl, h⟩ := h
    obtain ⟨_, vs, e, rp⟩ := rs.lstOf hl
    exact .inr (.inl ⟨a, rv.refE, ⟨vs, .inl (.inl e)⟩, k _ _ _ h jok_lst⟩)
  | tup xs =>
    obtain ⟨a, vs, rfl, sq, rp⟩ := rv.tup
    exact .inr (.inr ⟨a, rfl, ⟨vs, sq⟩, k _ _ _ h (jok_tup sq rp)⟩)
  | fl xs =>
    obtain ⟨a, vs, rfl, sq, rp⟩ := rv.flE
    exact .inr (.inl ⟨a, rfl, ⟨vs, sq.sq⟩, k _ _ _ h (jok_fl sq rp)⟩)
  | _ => exact h.elim
theorem pi_allL (ha : PE X a (lft X.K cls W ma)) : PI X tg a (lftI X.K cls W .all ma) :=
  PI.imp (pi_any ha) fun σ H R ⟨ρ, S, rr, x, re, rs, h, k, xl⟩ => ⟨ρ, S, _, x, re, rs, h, fun d S1 v H1 t1 rs1 rv1 h1 => itr_any rs1 rv1 h1 fun items g J hr hj => k S1 H1 items g J t1 rs1 hr hj, xl⟩
theorem pi_rng1L {x : Str} {p pos : Pos} (hx : x = "range") (hg : Gl X x) (hm : X.mg x = none) (hs : notStar a = true) (ha : PA X [a] (lftA X.K cls W ma)) : PI X tg (.Call (.Name x p) [a] [] pos) (lftI X.K cls W .rng1 ma) := by
  subst hx
  refine PI.imp (pi_range1 hg hm ha (by rw [star_cons hs]; rfl)) fun σ H R ⟨ρ, S, rr, x, re, rs, h, k, xl⟩ => ⟨ρ, S, _, x, re, rs, h, fun ds S1 vs H1 t1 rs1 rpp h1 => ?_, xl⟩
  unfold itrD at h1
  split at h1 <;> first | exact h1.elim | skip
  all_goals (rename_i e1 e2; try cases e1; try cases e2)
  obtain ⟨h1, h2, h3⟩ := h1
  obtain ⟨v, rfl, r⟩ := rp1 rpp
  exact ⟨_, by rw [r.intE], h1, h2, k _ _ _ _ _ t1 rs1 h3 jok_rng⟩
theorem pi_rng2L {b : Expr} {x : Str} {p pos : Pos} (hx : x = "range") (hg : Gl X x) (hm : X.mg x = none) (hs : notStar a = true) (hs2 : notStar b = true) (ha : PA X [a, b] (lftA X.K cls W ma)) : PI X tg (.Call (.Name x p) [a, b] [] pos) (lftI X.K cls W .rng2 ma) := by
  subst hx
  refine PI.imp (pi_range2 hg hm ha (by rw [star_cons hs, star_cons hs2]; rfl) (by rw [star_cons hs2]; rfl)) fun σ H R ⟨ρ, S, rr, x, re, rs, h, k, xl⟩ => ⟨ρ, S, _, x, re, rs, h, fun ds S1 vs H1 t1 rs1 rpp h1 => ?_, xl⟩
  unfold itrD at h1
  split at h1 <;> first | exact h1.elim | skip
  all_goals (rename_i e1 e2; try cases e1; try cases e2)
  obtain ⟨h1, h2⟩ := h1
  obtain ⟨v, w, rfl, r, r'⟩ := rp2 rpp
  exact ⟨_, _, by rw [r.intE, r'.intE], h1, k _ _ _ _ _ t1 rs1 h2 jok_rng⟩
end
end DL

set_option Elab.async false
set_option linter.all false
set_option maxRecDepth 100000
/-! DLg: comprehensions; all expressions -/
namespace DL
open PySem PySem.Spec PyProof.Rows L2
abbrev W0 : WX := fun _ _ _ _ => False
section
variable {X : Cx} {cls : Nat → Addr} {W : WX} {ma me mc : WE'}
theorem wipe_wipe (σ : L2.St) (l : List Nat) : L2.wipe (L2.wipe σ l) l = L2.wipe σ l := by
  have get : ∀ (l : List Nat) (σ : L2.St) (i : Nat), (L2.wipe σ l)[i]? = if i ∈ l then (if i < σ.length then some none else none) else σ[i]? := by
    intro l
    induction l with
    | nil => intro σ i; simp [L2.wipe]
    | cons j l ih =>
      intro σ i
      unfold L2.wipe
      by_cases e : j = i
      · subst e
        by_cases hj : j < σ.length
        · rw [List.getElem?_set_self (by rw [wipe_length]; exact hj)]
          simp [hj]
        · rw [List.getElem?_eq_none (by simp only [List.length_set, wipe_length]; omega)]
          simp [hj]
      · rw [List.getElem?_set_ne e, ih σ i]
        have : i ∈ j :: l ↔ i ∈ l := by
          rw [List.mem_cons]
          exact ⟨fun h => h.elim (fun z => absurd z.symm e) id, .inr⟩
        simp only [this]
  apply List.ext_getElem?
  intro i
  rw [get, get]
  by_cases h : i ∈ l
  · simp only [h, if_true, wipe_length]
  · simp only [h, if_false]
theorem lcL {k : IK} {elt tg iter : Expr} {ifs : List Expr} {scope : Scope} {own : List (Str × Nat)} {t : Tg} {c : Bool} (hc : X.calm = true) (hN : X.N.Nodup) (hi : PI X tg iter (lftI X.K cls W k ma)) (ok : BlkOk X.N X.env.scope scope own) (hns : notSet iter = true)
    (hin : tgIn (own.map (·.2)) t = true)
    (hg : ∀ (s : Shared) (H : Hp) (C : Addr) (cl : List (Str × Addr)) (fp : List Addr), PG (X.blk s H scope (compEnvC scope cl C X.env) fp) tg (gT X.K t))
    (ht : match c, ifs with
      | false, [] => True
      | true, [z] => ∀ (s : Shared) (H : Hp) (C : Addr) (cl : List (Str × Addr)) (fp : List Addr), PT (X.blk s H scope (compEnvC scope cl C X.env) fp) z (lftT X.K cls W0 mc)
      | _, _ => False)
    (he : ∀ (s : Shared) (H : Hp) (C : Addr) (cl : List (Str × Addr)) (fp : List Addr), PE (X.blk s H scope (compEnvC scope cl C X.env) fp) elt (lft X.K cls W0 me)) :
    ∃ (wi : TI) (g : TG) (tt : TT) (te : TE), PI X tg iter wi ∧ (∀ (s : Shared) (H : Hp) (C : Addr) (cl : List (Str × Addr)) (fp : List Addr), PG (X.blk s H scope (compEnvC scope cl C X.env) fp) tg g) ∧
      (∀ (s : Shared) (H : Hp) (C : Addr) (cl : List (Str × Addr)) (fp : List Addr), PTs (X.blk s H scope (compEnvC scope cl C X.env) fp) ifs tt) ∧ (∀ (s : Shared) (H : Hp) (C : Addr) (cl : List (Str × Addr)) (fp : List Addr), PE (X.blk s H scope (compEnvC scope cl C X.env) fp) elt te) ∧
      ∀ (σ : L2.St) (H : Hp) (Q : VK), lft X.K cls W (fun ρ S q x => ma ρ S (fun d S1 => itrD k d S1 fun items g =>
      ∀ p, S1 p = none → lcD g t p (wipeD ρ (own.map (·.2))) (fun ρ S Q => me ρ S Q x0) (fun ρ S Q => if c = true then mc ρ S (fun d S => ∃ b, d = .bl b ∧ Q b S) x0 else Q true S) (q (.ref p)) items (su S1 p (.lst []))) x) σ H Q → tLc wi g tt te (own.map (·.2)) σ H Q := by
  -- the test
  obtain ⟨tt, hts, htt⟩ : ∃ tt : TT, (∀ (s : Shared) (H : Hp) (C : Addr) (cl : List (Str × Addr)) (fp : List Addr), PTs (X.blk s H scope (compEnvC scope cl C X.env) fp) ifs tt) ∧
      ∀ (ρ : En) (S : Sto) (σ : L2.St) (H : Hp) (Q : Bool → Sto → Prop) (R : Bool → Hp → Prop), RE X.K H ρ σ → RS X.K H cls S → (if c = true then mc ρ S (fun d S => ∃ b, d = .bl b ∧ Q b S) x0 else Q true S) →
        (∀ b S' H', TK X.K H H' → RS X.K H' cls S' → Q b S' → R b H') → tt σ H R := by
    cases c with
    | false =>
      cases ifs with
      | nil => exact ⟨tYes, fun _ _ _ _ _ => pts_nil, fun ρ S σ H Q R re rs h k => k _ _ _ .refl rs h⟩
      | cons => exact ht.elim
    | true =>
      cases ifs with
      | nil => exact ht.elim
      | cons z zs =>
        cases zs with
        | cons => exact ht.elim
        | nil => exact ⟨lftT X.K cls W0 mc, fun s H C cl fp => pts_one (ht s H C cl fp), fun ρ S σ H Q R re rs h k => ⟨ρ, S, _, x0, re, rs, h, fun d S' H' t rs' hd => by
            obtain ⟨b, rfl, hd⟩ := hd
            exact ⟨b, rfl, k _ _ _ t rs' hd⟩, fun _ _ _ _ _ _ _ _ z => z⟩⟩
  refine ⟨_, _, _, _, hi, hg, hts, he, fun σ H Q ⟨ρ, S, q, x, re, rs, h, ql, xl⟩ => ?_⟩
  refine ⟨ρ, S, fun S1 items g => ∀ p, S1 p = none → lcD g t p (wipeD ρ (own.map (·.2))) (fun ρ S Q => me ρ S Q x0) (fun ρ S Q => if c = true then mc ρ S (fun d S => ∃ b, d = .bl b ∧ Q b S) x0 else Q true S) (q (.ref p)) items (su S1 p (.lst [])), x, re, rs, h, ?_, xl⟩
  intro S1 H1 items g J t1 rs1 hr hj D hD
  have h0 := hr D (rs1.free hD)
  have rs0 := rs1.newS (o := .lst []) (u := .lst []) hD ⟨[], upd_same, .nil⟩
  have t0 := tk_new (K := X.K) (o := .lst []) hD
  refine ⟨fun i m H => ∃ S, i ≤ items.length ∧ m = items.length - i ∧ TK X.K H1 H ∧ RS X.K H cls S ∧ lcD g t D (wipeD ρ (own.map (·.2))) (fun ρ S Q => me ρ S Q x0) (fun ρ S Q => if c = true then mc ρ S (fun d S => ∃ b, d = .bl b ∧ Q b S) x0 else Q true S) (q (.ref D)) (items.drop i) S,
    ⟨items.length, _, Nat.zero_le _, by simp, t0, rs0, by simpa using h0⟩, fun i m H2 hw => ?_⟩
  obtain ⟨S2, hi2, rfl, t2, rs2, h2⟩ := hw
  by_cases hlt : i < items.length
  · obtain ⟨x1, hx⟩ : ∃ x1, items[i]? = some x1 := ⟨items[i], by simp [hlt]⟩
    have hd : items.drop i = x1 :: items.drop (i + 1) := by
      rw [List.drop_eq_getElem_cons hlt]
      have : items[i] = x1 := by
        rw [List.getElem?_eq_getElem hlt] at hx
        exact Option.some.inj hx
      rw [this]
    rw [hd] at h2
    obtain ⟨hg2, h2⟩ := h2
    obtain ⟨go, hy⟩ := hj.2 i x1 S2 H2 hx t2 rs2 hg2
    refine .inr ⟨go, fun H' => ∃ S', TK X.K H1 H' ∧ RS X.K H' cls S' ∧ lcD g t D (wipeD ρ (own.map (·.2))) (fun ρ S Q => me ρ S Q x0) (fun ρ S Q => if c = true then mc ρ S (fun d S => ∃ b, d = .bl b ∧ Q b S) x0 else Q true S) (q (.ref D)) (items.drop (i + 1)) S',
      fun H' ⟨S', t', rs', h'⟩ => ⟨items.length - (i + 1), by omega, S', hlt, rfl, t', rs', h'⟩, fun v H3 y => ?_⟩
    obtain ⟨t3, rs3, r3⟩ := hy v H3 y
    have re3 : RE X.K H3 (wipeD ρ (own.map (·.2))) (L2.wipe σ (own.map (·.2))) := (re.mono (t1.trans (t2.trans t3))).wipe _
    refine tg_rv re3 r3 h2 fun ρ4 σ4 re4 h4 hw4 => ⟨?_, ?_⟩
    · rw [hw4 _ hin, wipe_wipe]
    · refine htt ρ4 S2 σ4 H3 _ _ re4 rs3 h4 fun b S5 H5 t5 rs5 h5 => ?_
      cases b with
      | false =>
        simp only [Bool.false_eq_true, if_false] at h5 ⊢
        exact ⟨S5, t2.trans (t3.trans t5), rs5, h5⟩
      | true =>
        simp only [if_true] at h5 ⊢
        refine ⟨ρ4, S5, _, x0, re4.mono t5, rs5, h5, fun d S6 v6 H6 t6 rs6 r6 h6 => ?_, fun _ _ _ _ _ _ _ _ z => z⟩
        obtain ⟨acc, ha, hl, h6⟩ := h6
        obtain ⟨ea, vs, e, rp⟩ := rs6.lstOf ha
        have t7 : TK X.K H6 (upd H6 D (.lst (vs ++ [v6]))) := tk_mut e mu_lst
        exact ⟨vs, e, by rw [← P.len rp]; exact hl, _, t2.trans (t3.trans (t5.trans (t6.trans t7))), rs6.put (o := .lst (acc ++ [d])) e mu_lst ⟨_, upd_same, RP.mono t7 (P.app rp (.cons r6 .nil))⟩, h6⟩
  · have e : i = items.length := by omega
    subst e
    rw [List.drop_length] at h2
    obtain ⟨hg2, h2⟩ := h2
    exact .inl ⟨hj.1 _ S2 H2 (Nat.le_refl _) t2 rs2 hg2, ql _ _ _ _ (t1.trans t2) rs2 RV.ref' h2⟩
end

/-! ### all expressions -/
theorem xok_blk {G : GT} {Φ : Call} {cls : Nat → Addr} {k : Nat} {Γ : Gam} {W : WX} {X : Cx} (ok : XOK G Φ cls k Γ W X) (s : Shared) (H : Hp) (scope : Scope) (C : Addr) (cl : List (Str × Addr)) (fp : List Addr) :
    XOK G Φ cls k ⟨Γ.N, relS scope Γ.sc⟩ W0 (X.blk s H scope (compEnvC scope cl C X.env) fp) where
  N := ok.N
  sc := by
    show relabel scope X.env = relS scope Γ.sc
    rw [← ok.sc]
    rfl
  nd := ok.nd
  calm := ok.calm
  room := ok.room
  tk := takes0
  fns := ok.fns
  cs := ok.cs
  free := ok.free
def SndE (G : GT) (Φ : Call) (cls : Nat → Addr) (k : Nat) (e : E) : Prop := ∀ (Γ : Gam) (W : WX) (X : Cx), XOK G Φ cls k Γ W X →
  (∀ ast, refE G e Γ ast = true → PE X ast (lft X.K cls W (wp G Φ e .v)) ∧ PT X ast (lftT X.K cls W (wp G Φ e .t))) ∧
  ∀ asts, refL G e Γ asts = true → PA X asts (lftA X.K cls W (wp G Φ e .l)) ∧ PPok X cls W (wp G Φ e .l) asts ∧ (asts = [] → ∀ ρ S q x, wp G Φ e .l ρ S q x → q (.tup []) S) ∧
    (asts ≠ [] → ∀ pos, PE X (.BoolOp .And asts pos) (lft X.K cls W (wp G Φ e .av)) ∧ PW X (.BoolOp .And asts pos) (lftT X.K cls W (wp G Φ e .at)) ∧
      PE X (.BoolOp .Or asts pos) (lft X.K cls W (wp G Φ e .ov)) ∧ PW X (.BoolOp .Or asts pos) (lftT X.K cls W (wp G Φ e .ot)))
theorem not_list {G : GT} {Φ : Call} {cls : Nat → Addr} {e : E} {Γ : Gam} {W : WX} {X : Cx} (h : ∀ asts, refL G e Γ asts = false) :
    ∀ asts, refL G e Γ asts = true → PA X asts (lftA X.K cls W (wp G Φ e .l)) ∧ PPok X cls W (wp G Φ e .l) asts ∧ (asts = [] → ∀ ρ S q x, wp G Φ e .l ρ S q x → q (.tup []) S) ∧
    (asts ≠ [] → ∀ pos, PE X (.BoolOp .And asts pos) (lft X.K cls W (wp G Φ e .av)) ∧ PW X (.BoolOp .And asts pos) (lftT X.K cls W (wp G Φ e .at)) ∧
      PE X (.BoolOp .Or asts pos) (lft X.K cls W (wp G Φ e .ov)) ∧ PW X (.BoolOp .Or asts pos) (lftT X.K cls W (wp G Φ e .ot))) := fun asts q => by
  rw [h asts] at q
  cases q
section
variable {G : GT} {Φ : Call} {cls : Nat → Addr} {k : Nat}
theorem snd_var (i : Nat) : SndE G Φ cls k (.var i) := fun Γ W X ok => ⟨fun ast h => by
  cases ast <;> first | (exact Bool.noConfusion h) | skip
  rename_i x pos
  obtain ⟨h1, h2, h3, h4⟩ := nmB_of (show nmB Γ i x = true from h)
  have he : PE X (.Name x pos) (lft X.K cls W (wp G Φ (.var i) .v)) := PE.imp (pe_var (i := i) (by rw [ok.N]; exact h1) (by rw [ok.sc]; exact h2) h3 h4) fun σ H Q ⟨ρ, S, q, x, re, rs, ⟨d, hd, h⟩, ql, xl⟩ => by
    obtain ⟨v, e, r⟩ := re.2 i d hd
    exact ⟨v, e, ql.here rs r h⟩
  exact ⟨he, pt_plain he (fun ρ S q x h => h) fun _ => rfl⟩, not_list fun asts => by cases asts <;> rfl⟩
theorem snd_int (i : Int) : SndE G Φ cls k (.int i) := fun Γ W X ok => ⟨fun ast h => by
  cases ast <;> first | (exact Bool.noConfusion h) | skip
  rename_i c kk pos
  cases c <;> first | (exact Bool.noConfusion h) | skip
  rename_i j
  have h : i = j := of_decide_eq_true h
  subst h
  have he : PE X (.Constant (.int i) kk pos) (lft X.K cls W (wp G Φ (.int i) .v)) := pe_c pe_int fun H => RV.int'
  exact ⟨he, pt_plain he (fun ρ S q x h => h) fun _ => rfl⟩, not_list fun asts => by cases asts <;> rfl⟩
theorem snd_str (i : Str) : SndE G Φ cls k (.str i) := fun Γ W X ok => ⟨fun ast h => by
  cases ast <;> first | (exact Bool.noConfusion h) | skip
  rename_i c kk pos
  cases c <;> first | (exact Bool.noConfusion h) | skip
  rename_i j
  have h : i = j := of_decide_eq_true h
  subst h
  have he : PE X (.Constant (.str i) kk pos) (lft X.K cls W (wp G Φ (.str i) .v)) := pe_c pe_str fun H => RV.str'
  exact ⟨he, pt_plain he (fun ρ S q x h => h) fun _ => rfl⟩, not_list fun asts => by cases asts <;> rfl⟩
theorem snd_bl (i : Bool) : SndE G Φ cls k (.bl i) := fun Γ W X ok => ⟨fun ast h => by
  cases ast <;> first | (exact Bool.noConfusion h) | skip
  rename_i c kk pos
  cases c <;> first | (exact Bool.noConfusion h) | skip
  rename_i j
  have h : i = j := of_decide_eq_true h
  subst h
  have he : PE X (.Constant (.bool i) kk pos) (lft X.K cls W (wp G Φ (.bl i) .v)) := pe_c pe_bl fun H => RV.bl'
  exact ⟨he, pt_plain he (fun ρ S q x h => h) fun _ => rfl⟩, not_list fun asts => by cases asts <;> rfl⟩
theorem snd_non : SndE G Φ cls k .non := fun Γ W X ok => ⟨fun ast h => by
  cases ast <;> first | (exact Bool.noConfusion h) | skip
  rename_i c kk pos
  cases c <;> first | (exact Bool.noConfusion h) | skip
  have he : PE X (.Constant .none kk pos) (lft X.K cls W (wp G Φ .non .v)) := pe_c pe_non fun H => RV.non'
  exact ⟨he, pt_plain he (fun ρ S q x h => h) fun _ => rfl⟩, not_list fun asts => by cases asts <;> rfl⟩
theorem snd_glo (y : Str) : SndE G Φ cls k (.glo y) := fun Γ W X ok => ⟨fun ast h => by
  cases ast <;> first | (exact Bool.noConfusion h) | skip
  rename_i x pos
  unfold refE at h
  simp only [Bool.and_eq_true, decide_eq_true_eq] at h
  obtain ⟨e, h⟩ := h
  subst e
  obtain ⟨h1, h2, h3⟩ := glB_of h
  have he : PE X (.Name y pos) (lft X.K cls W (wp G Φ (.glo y) .v)) := by
    refine ⟨fun pins s σ H Q I q => ?_⟩
    obtain ⟨ρ, S, q, x, re, rs, ⟨d, hd, h⟩, ql, xl⟩ := q
    obtain ⟨u, v, hm, r, rv⟩ := ok.cs y d hd
    exact (pe_glob (gl_of ok.sc h1) hm r h2).run pins s σ H Q I (ql.here rs (rv H) h)
  exact ⟨he, pt_plain he (fun ρ S q x h => h) fun _ => rfl⟩, not_list fun asts => by cases asts <;> rfl⟩
theorem snd_bin (op : Operator) {a b : E} (ha : SndE G Φ cls k a) (hb : SndE G Φ cls k b) : SndE G Φ cls k (.bin op a b) := fun Γ W X ok => ⟨fun ast h => by
  cases ast <;> first | (exact Bool.noConfusion h) | skip
  rename_i x o y pos
  unfold refE at h
  simp only [Bool.and_eq_true, decide_eq_true_eq] at h
  obtain ⟨⟨e, h1⟩, h2⟩ := h
  subst e
  have he : PE X (.BinOp x op y pos) (lft X.K cls W (wp G Φ (.bin op a b) .v)) := pe_bin ((ha Γ W X ok).1 x h1).1 ((hb Γ W X ok).1 y h2).1 (opl_bin op)
  exact ⟨he, pt_plain he (fun ρ S q x h => h) fun _ => rfl⟩, not_list fun asts => by cases asts <;> rfl⟩
theorem snd_neg {a : E} (ha : SndE G Φ cls k a) : SndE G Φ cls k (.neg a) := fun Γ W X ok => ⟨fun ast h => by
  cases ast <;> first | (exact Bool.noConfusion h) | skip
  rename_i o x pos
  cases o <;> first | (exact Bool.noConfusion h) | skip
  have he : PE X (.UnaryOp .USub x pos) (lft X.K cls W (wp G Φ (.neg a) .v)) := PE.imp (pe_un un_neg ((ha Γ W X ok).1 x h).1) fun σ H Q ⟨ρ, S, q, x, re, rs, h, ql, xl⟩ => ⟨ρ, S, _, x, re, rs, h, fun d S1 v H1 t1 rs1 rv1 h1 => by
    obtain ⟨i, rfl, h1⟩ := h1
    exact ⟨i, rv1.intE, ql _ _ _ _ t1 rs1 RV.int' h1⟩, xl⟩
  exact ⟨he, pt_plain he (fun ρ S q x h => h) fun _ => rfl⟩, not_list fun asts => by cases asts <;> rfl⟩
theorem snd_cmp (op : CmpOp) {a b : E} (ha : SndE G Φ cls k a) (hb : SndE G Φ cls k b) : SndE G Φ cls k (.cmp op a b) := fun Γ W X ok => ⟨fun ast h => by
  cases ast <;> first | (exact Bool.noConfusion h) | skip
  rename_i x os ys pos
  cases os with
  | nil => exact Bool.noConfusion h
  | cons o os =>
    cases os with
    | cons => exact Bool.noConfusion h
    | nil =>
      cases ys with
      | nil => exact Bool.noConfusion h
      | cons y ys =>
        cases ys with
        | cons => exact Bool.noConfusion h
        | nil =>
          unfold refE at h
          simp only [Bool.and_eq_true, decide_eq_true_eq] at h
          obtain ⟨⟨⟨e, hs⟩, h1⟩, h2⟩ := h
          subst e
          have hu := ok.room.units
          exact ⟨pe_cmpL (mark_of hs) ((ha Γ W X ok).1 x h1).1 ((hb Γ W X ok).1 y h2).1 (opl_cmp hu op), PT.imp (pt_cmpL (mark_of hs) ((ha Γ W X ok).1 x h1).1 ((hb Γ W X ok).1 y h2).1 (opl_cmp hu op)) fun _ _ _ h => h⟩, not_list fun asts => by cases asts <;> rfl⟩
theorem marks_of {o1 o2 : CmpOp} {y z : Expr} (h1 : notSet y = true) (h2 : notSet z = true) : lastMarks [o1, o2] [y, z] = false := by
  show behindInMarks o2 z = false
  exact mark_of h2
theorem snd_chn (o1 o2 : CmpOp) {a b c : E} (ha : SndE G Φ cls k a) (hb : SndE G Φ cls k b) (hc : SndE G Φ cls k c) : SndE G Φ cls k (.chn o1 o2 a b c) := fun Γ W X ok => ⟨fun ast h => by
  cases ast <;> first | (exact Bool.noConfusion h) | skip
  rename_i x os ys pos
  obtain ⟨p1, p2, rfl⟩ : ∃ p1 p2, os = [p1, p2] := by
    match os, h with
    | [p1, p2], _ => exact ⟨p1, p2, rfl⟩
    | [], h => exact Bool.noConfusion h
    | [_], h => exact Bool.noConfusion h
    | _ :: _ :: _ :: _, h => exact Bool.noConfusion h
  obtain ⟨y, z, rfl⟩ : ∃ p1 p2, ys = [p1, p2] := by
    match ys, h with
    | [p1, p2], _ => exact ⟨p1, p2, rfl⟩
    | [], h => exact Bool.noConfusion h
    | [_], h => exact Bool.noConfusion h
    | _ :: _ :: _ :: _, h => exact Bool.noConfusion h
  unfold refE at h
  simp only [Bool.and_eq_true, decide_eq_true_eq] at h
  obtain ⟨⟨⟨⟨⟨⟨e1, e2⟩, hs1⟩, hs2⟩, h1⟩, h2⟩, h3⟩ := h
  subst e1 e2
  have hu := ok.room.units
  have A := ((ha Γ W X ok).1 x h1).1
  have B := ((hb Γ W X ok).1 y h2).1
  have Cc := ((hc Γ W X ok).1 z h3).1
  obtain ⟨C1, C2⟩ := chnL (pos := pos) (marks_of hs1 hs2) A B Cc (opl_cmp hu o1) (opl_cmp hu o2)
  exact ⟨PE.imp C1 fun _ _ _ h => h, PT.imp C2 fun _ _ _ h => h⟩, not_list fun asts => by cases asts <;> rfl⟩
theorem snd_and {es : E} (ha : SndE G Φ cls k es) : SndE G Φ cls k (.and es) := fun Γ W X ok => ⟨fun ast h => by
  cases ast <;> first | (exact Bool.noConfusion h) | skip
  rename_i o vs pos
  cases o <;> first | (exact Bool.noConfusion h) | skip
  unfold refE at h
  simp only [Bool.and_eq_true, Bool.not_eq_true', List.isEmpty_eq_false_iff] at h
  obtain ⟨A, B, _, _⟩ := ((ha Γ W X ok).2 vs h.2).2.2.2 h.1 pos
  exact ⟨A, B.pt⟩, not_list fun asts => by cases asts <;> rfl⟩
theorem snd_or {es : E} (ha : SndE G Φ cls k es) : SndE G Φ cls k (.or es) := fun Γ W X ok => ⟨fun ast h => by
  cases ast <;> first | (exact Bool.noConfusion h) | skip
  rename_i o vs pos
  cases o <;> first | (exact Bool.noConfusion h) | skip
  unfold refE at h
  simp only [Bool.and_eq_true, Bool.not_eq_true', List.isEmpty_eq_false_iff] at h
  obtain ⟨_, _, A, B⟩ := ((ha Γ W X ok).2 vs h.2).2.2.2 h.1 pos
  exact ⟨A, B.pt⟩, not_list fun asts => by cases asts <;> rfl⟩
theorem snd_not {a : E} (ha : SndE G Φ cls k a) : SndE G Φ cls k (.not a) := fun Γ W X ok => ⟨fun ast h => by
  cases ast <;> first | (exact Bool.noConfusion h) | skip
  rename_i o x pos
  cases o <;> first | (exact Bool.noConfusion h) | skip
  obtain ⟨A, B⟩ := (ha Γ W X ok).1 x h
  exact ⟨pe_notL A, pt_notL B⟩, not_list fun asts => by cases asts <;> rfl⟩
theorem snd_ite {t a b : E} (ht : SndE G Φ cls k t) (ha : SndE G Φ cls k a) (hb : SndE G Φ cls k b) : SndE G Φ cls k (.ite t a b) := fun Γ W X ok => ⟨fun ast h => by
  cases ast <;> first | (exact Bool.noConfusion h) | skip
  rename_i x y z pos
  unfold refE at h
  simp only [Bool.and_eq_true] at h
  have A := ((ht Γ W X ok).1 x h.1.1).2
  have B := ((ha Γ W X ok).1 y h.1.2).1
  have Cc := ((hb Γ W X ok).1 z h.2).1
  have B2 := ((ha Γ W X ok).1 y h.1.2).2
  have C2 := ((hb Γ W X ok).1 z h.2).2
  exact ⟨pe_iteL A B Cc, pt_iteL A B2 C2⟩, not_list fun asts => by cases asts <;> rfl⟩
theorem snd_tup {es : E} (ha : SndE G Φ cls k es) : SndE G Φ cls k (.tup es) := fun Γ W X ok => ⟨fun ast h => by
  cases ast <;> first | (exact Bool.noConfusion h) | skip
  rename_i vs kk pos
  have he : PE X (.Tuple vs kk pos) (lft X.K cls W (wp G Φ (.tup es) .v)) := pe_tupL ((ha Γ W X ok).2 vs h).1
  exact ⟨he, pt_plain he (fun ρ S q x h => h) fun _ => rfl⟩, not_list fun asts => by cases asts <;> rfl⟩
theorem snd_lst {es : E} (ha : SndE G Φ cls k es) : SndE G Φ cls k (.lst es) := fun Γ W X ok => ⟨fun ast h => by
  cases ast <;> first | (exact Bool.noConfusion h) | skip
  rename_i vs pos
  have he : PE X (.List vs pos) (lft X.K cls W (wp G Φ (.lst es) .v)) := pe_lstL ((ha Γ W X ok).2 vs h).1
  exact ⟨he, pt_plain he (fun ρ S q x h => h) fun _ => rfl⟩, not_list fun asts => by cases asts <;> rfl⟩
theorem snd_dic (kk : List Key) {es : E} (ha : SndE G Φ cls k es) : SndE G Φ cls k (.dic kk es) := fun Γ W X ok => ⟨fun ast h => by
  cases ast <;> first | (exact Bool.noConfusion h) | skip
  rename_i ks vs pos
  unfold refE at h
  simp only [Bool.and_eq_true, decide_eq_true_eq] at h
  obtain ⟨⟨⟨h1, h2⟩, h3⟩, h4⟩ := h
  obtain ⟨A, B, Cc, _⟩ := (ha Γ W X ok).2 vs h4
  have he : PE X (.Dict ks vs pos) (lft X.K cls W (wp G Φ (.dic kk es) .v)) := pe_dicL h1 h2 h3 B Cc
  exact ⟨he, pt_plain he (fun ρ S q x h => h) fun _ => rfl⟩, not_list fun asts => by cases asts <;> rfl⟩
theorem snd_idx {a i : E} (ha : SndE G Φ cls k a) (hb : SndE G Φ cls k i) : SndE G Φ cls k (.idx a i) := fun Γ W X ok => ⟨fun ast h => by
  cases ast <;> first | (exact Bool.noConfusion h) | skip
  rename_i x y pos
  have h : (notSlice y && refE G a Γ x && refE G i Γ y) = true := h
  simp only [Bool.and_eq_true] at h
  have he : PE X (.Subscript x y pos) (lft X.K cls W (wp G Φ (.idx a i) .v)) := pe_idxL (hu_of ok.room) h.1.1 ((ha Γ W X ok).1 x h.1.2).1 ((hb Γ W X ok).1 y h.2).1
  exact ⟨he, pt_plain he (fun ρ S q x h => h) fun _ => rfl⟩, not_list fun asts => by cases asts <;> rfl⟩
theorem snd_slc (l u : Bool) {a lo hi : E} (ha : SndE G Φ cls k a) (hb : SndE G Φ cls k lo) (hc : SndE G Φ cls k hi) : SndE G Φ cls k (.slc l u a lo hi) := fun Γ W X ok => ⟨fun ast h => by
  cases ast <;> first | (exact Bool.noConfusion h) | skip
  rename_i x y pos
  cases y <;> first | (exact Bool.noConfusion h) | skip
  rename_i p q st pos2
  cases st <;> first | (exact Bool.noConfusion h) | skip
  unfold refE at h
  simp only [Bool.and_eq_true] at h
  have A := ((ha Γ W X ok).1 x h.1.1).1
  have he : PE X (.Subscript x (.Slice p q none pos2) pos) (lft X.K cls W (wp G Φ (.slc l u a lo hi) .v)) := by
    refine pe_slcL A ?_ ?_
    · have h := h.1.2
      cases l <;> cases p <;> first | exact True.intro | (exact Bool.noConfusion h) | exact ((hb Γ W X ok).1 _ h).1
    · have h := h.2
      cases u <;> cases q <;> first | exact True.intro | (exact Bool.noConfusion h) | exact ((hc Γ W X ok).1 _ h).1
  exact ⟨he, pt_plain he (fun ρ S q x h => h) fun _ => rfl⟩, not_list fun asts => by cases asts <;> rfl⟩
theorem snd_rvs {a : E} (ha : SndE G Φ cls k a) : SndE G Φ cls k (.rvs a) := fun Γ W X ok => ⟨fun ast h => by
  cases ast <;> first | (exact Bool.noConfusion h) | skip
  rename_i x y pos
  cases y <;> first | (exact Bool.noConfusion h) | skip
  rename_i p q st pos2
  cases p <;> first | (exact Bool.noConfusion h) | skip
  cases q <;> first | (exact Bool.noConfusion h) | skip
  cases st <;> first | (exact Bool.noConfusion h) | skip
  rename_i st
  replace h : (isRev1 st && refE G a Γ x) = true := h
  simp only [Bool.and_eq_true] at h
  have h1 := h.1
  cases st <;> first | (exact Bool.noConfusion h1) | skip
  rename_i o z p3
  cases o <;> first | (exact Bool.noConfusion h1) | skip
  cases z <;> first | (exact Bool.noConfusion h1) | skip
  rename_i c kk p4
  cases c <;> first | (exact Bool.noConfusion h1) | skip
  have e := of_decide_eq_true h1
  subst e
  have he : PE X (.Subscript x (.Slice none none (some (.UnaryOp .USub (.Constant (.int 1) kk p4) p3)) pos2) pos) (lft X.K cls W (wp G Φ (.rvs a) .v)) := pe_rvsL ((ha Γ W X ok).1 x h.2).1
  exact ⟨he, pt_plain he (fun ρ S q x h => h) fun _ => rfl⟩, not_list fun asts => by cases asts <;> rfl⟩
theorem snd_lrv {a : E} (ha : SndE G Φ cls k a) : SndE G Φ cls k (.lrv a) := fun Γ W X ok => ⟨fun ast h => by
  cases ast <;> first | (exact Bool.noConfusion h) | skip
  rename_i fe vs kws pos
  cases fe <;> first | (exact Bool.noConfusion h) | skip
  rename_i x p
  rcases vs with _ | ⟨y, _ | ⟨zz, zs⟩⟩ <;> first | exact Bool.noConfusion h | skip
  cases kws <;> first | exact Bool.noConfusion h | skip
  replace h : (decide (x = "list") && freeB G Γ x && lrvB (freeB G Γ) (refE G a Γ) y) = true := h
  simp only [Bool.and_eq_true, decide_eq_true_eq] at h
  obtain ⟨⟨rfl, h2⟩, h⟩ := h
  unfold lrvB at h
  split at h <;> first | (exact Bool.noConfusion h) | skip
  rename_i y p2 e pos2
  simp only [Bool.and_eq_true, decide_eq_true_eq] at h
  obtain ⟨⟨⟨rfl, h4⟩, h5⟩, h6⟩ := h
  obtain ⟨g1, g2, g3, g4⟩ := freeB_of h2
  obtain ⟨f1, f2, f3, f4⟩ := freeB_of h4
  have he : PE X (.Call (.Name "list" p) [.Call (.Name "reversed" p2) [e] [] pos2] [] pos) (lft X.K cls W (wp G Φ (.lrv a) .v)) :=
    pe_lrvL ok.calm (gl_of ok.sc g1) (ok.free _ g4) (gl_of ok.sc f1) (ok.free _ f4) (star_cons h5) ((ha Γ W X ok).1 e h6).1
  exact ⟨he, pt_plain he (fun ρ S q x h => h) fun _ => rfl⟩, not_list fun asts => by cases asts <;> rfl⟩
theorem snd_lset {a : E} (ha : SndE G Φ cls k a) : SndE G Φ cls k (.lset a) := fun Γ W X ok => ⟨fun ast h => by
  cases ast <;> first | (exact Bool.noConfusion h) | skip
  rename_i fe vs kws pos
  cases fe <;> first | (exact Bool.noConfusion h) | skip
  rename_i x p
  rcases vs with _ | ⟨y, _ | ⟨zz, zs⟩⟩ <;> first | exact Bool.noConfusion h | skip
  cases kws <;> first | exact Bool.noConfusion h | skip
  replace h : (decide (x = "len") && freeB G Γ x && lsetB (freeB G Γ) (refE G a Γ) y) = true := h
  simp only [Bool.and_eq_true, decide_eq_true_eq] at h
  obtain ⟨⟨rfl, h2⟩, h⟩ := h
  unfold lsetB at h
  split at h <;> first | (exact Bool.noConfusion h) | skip
  rename_i y p2 e pos2
  simp only [Bool.and_eq_true, decide_eq_true_eq] at h
  obtain ⟨⟨⟨rfl, h4⟩, h5⟩, h6⟩ := h
  obtain ⟨g1, g2, g3, g4⟩ := freeB_of h2
  obtain ⟨f1, f2, f3, f4⟩ := freeB_of h4
  have he : PE X (.Call (.Name "len" p) [.Call (.Name "set" p2) [e] [] pos2] [] pos) (lft X.K cls W (wp G Φ (.lset a) .v)) :=
    pe_lsetL ok.calm (gl_of ok.sc g1) (ok.free _ g4) (gl_of ok.sc f1) (ok.free _ f4) (star_cons h5) ((ha Γ W X ok).1 e h6).1
  exact ⟨he, pt_plain he (fun ρ S q x h => h) fun _ => rfl⟩, not_list fun asts => by cases asts <;> rfl⟩
theorem snd_call (f : Nat) {es : E} (ha : SndE G Φ cls k es) : SndE G Φ cls k (.call f es) := fun Γ W X ok => ⟨fun ast h => by
  cases ast <;> first | (exact Bool.noConfusion h) | skip
  rename_i fe vs kws pos
  cases fe <;> first | (exact Bool.noConfusion h) | skip
  rename_i x p
  cases kws <;> first | (exact Bool.noConfusion h) | skip
  have h : (decide (G.fn f = some x) && glB Γ x && !vs.isEmpty && refL G es Γ vs) = true := h
  simp only [Bool.and_eq_true, decide_eq_true_eq, Bool.not_eq_true', List.isEmpty_eq_false_iff] at h
  obtain ⟨⟨⟨h1, h2⟩, h3⟩, h4⟩ := h
  obtain ⟨g1, g2, g3⟩ := glB_of h2
  obtain ⟨fa, fd, ps, hm, hk, hb, F⟩ := ok.fns f x h1
  cases vs with
  | nil => exact absurd rfl h3
  | cons e vs =>
    obtain ⟨_, _, _, hs, _, hp⟩ := refL_cons h4
    have he : PE X (.Call (.Name x p) (e :: vs) [] pos) (lft X.K cls W (wp G Φ (.call f es) .v)) := pe_callL (n := f) ok.tk F ok.room (gl_of ok.sc g1) hm hk hb ((ha Γ W X ok).2 _ h4).1 g2 (star_cons hs) (refL_plain hp)
    exact ⟨he, pt_plain he (fun ρ S q x h => h) fun _ => rfl⟩, not_list fun asts => by cases asts <;> rfl⟩
theorem bltN_of {b : Blt} {n : String} (h : bltN b = some n) : ((∃ id, bltV b = .builtin id) ∨ ∃ T, bltV b = .type T) ∧ bootBuiltins (Str.ofString n) = some (bltV b) := by
  cases b <;> first | cases h | skip
  all_goals (first | exact ⟨.inl ⟨_, rfl⟩, by decide +kernel⟩ | exact ⟨.inr ⟨_, rfl⟩, by decide +kernel⟩)
theorem snd_blt (b : Blt) {es : E} (ha : SndE G Φ cls k es) : SndE G Φ cls k (.blt b es) := fun Γ W X ok => ⟨fun ast h => by
  cases ast <;> first | (exact Bool.noConfusion h) | skip
  rename_i fe vs kws pos
  cases fe <;> first | (exact Bool.noConfusion h) | skip
  rename_i x p
  cases kws <;> first | (exact Bool.noConfusion h) | skip
  have h : ((match bltN b with | some n => decide (x = Str.ofString n) | none => false) && freeB G Γ x && !vs.isEmpty && refL G es Γ vs) = true := h
  simp only [Bool.and_eq_true, Bool.not_eq_true', List.isEmpty_eq_false_iff] at h
  obtain ⟨⟨⟨h1, h2⟩, h3⟩, h4⟩ := h
  obtain ⟨g1, g2, g3, g4⟩ := freeB_of h2
  cases e : bltN b with
  | none => rw [e] at h1; cases h1
  | some n =>
    rw [e] at h1
    have h1 : x = Str.ofString n := of_decide_eq_true h1
    obtain ⟨b1, b2⟩ := bltN_of e
    cases vs with
    | nil => exact absurd rfl h3
    | cons e vs =>
      obtain ⟨_, _, _, hs, _, hp⟩ := refL_cons h4
      have he : PE X (.Call (.Name x p) (e :: vs) [] pos) (lft X.K cls W (wp G Φ (.blt b es) .v)) :=
        pe_bltL b1 (cl_blt ok.calm b) (gl_of ok.sc g1) (ok.free x g4) (by rw [h1]; exact b2) ((ha Γ W X ok).2 _ h4).1 g3 g2 (star_cons hs) (refL_plain hp)
      exact ⟨he, pt_plain he (fun ρ S q x h => h) fun _ => rfl⟩, not_list fun asts => by cases asts <;> rfl⟩
theorem snd_mth (m : Mth) {o es : E} (ho : SndE G Φ cls k o) (ha : SndE G Φ cls k es) : SndE G Φ cls k (.mth m o es) := fun Γ W X ok => ⟨fun ast h => by
  cases ast <;> first | (exact Bool.noConfusion h) | skip
  rename_i fe vs kws pos
  cases fe <;> first | (exact Bool.noConfusion h) | skip
  rename_i y x p
  cases kws <;> first | (exact Bool.noConfusion h) | skip
  have h : (decide (x = Str.ofString m.name) && notCall0 y && (p.endLine == pos.line) && decide (vs.length < 25) && refE G o Γ y && refL G es Γ vs) = true := h
  simp only [Bool.and_eq_true, decide_eq_true_eq] at h
  obtain ⟨⟨⟨⟨⟨h1, h2⟩, h3⟩, h4⟩, h5⟩, h6⟩ := h
  obtain ⟨A, _, Cc, _⟩ := (ha Γ W X ok).2 vs h6
  have he : PE X (.Call (.Attribute y x p) vs [] pos) (lft X.K cls W (wp G Φ (.mth m o es) .v)) := pe_mthL m h1 h2 h3 h4 ((ho Γ W X ok).1 y h5).1 (refL_stars h6) A Cc
  exact ⟨he, pt_plain he (fun ρ S q x h => h) fun _ => rfl⟩, not_list fun asts => by cases asts <;> rfl⟩
theorem snd_isi {a : E} (ts : List Ty) (ha : SndE G Φ cls k a) : SndE G Φ cls k (.isi a ts) := fun Γ W X ok => ⟨fun ast h => by
  cases ast <;> first | (exact Bool.noConfusion h) | skip
  rename_i fe vs kws pos
  cases fe <;> first | (exact Bool.noConfusion h) | skip
  rename_i x p
  rcases vs with _ | ⟨y, _ | ⟨zz, _ | ⟨z2, zs⟩⟩⟩ <;> first | exact Bool.noConfusion h | skip
  · cases zz <;> first | (exact Bool.noConfusion h) | skip
    rename_i z p2
    cases kws <;> first | (exact Bool.noConfusion h) | skip
    have h : (isiB ts (fun t => decide (x = "isinstance") && freeB G Γ x && decide (z = Str.ofString t.name) && freeB G Γ z && notStar y && decide (t ≠ .non)) && refE G a Γ y) = true := h
    simp only [Bool.and_eq_true] at h
    obtain ⟨h, h7⟩ := h
    obtain ⟨t, rfl⟩ : ∃ t, ts = [.b t] := by
      rcases ts with _ | ⟨(t | t), _ | ⟨_, _⟩⟩ <;> first | exact Bool.noConfusion h | exact ⟨_, rfl⟩
    have h : (decide (x = "isinstance") && freeB G Γ x && decide (z = Str.ofString t.name) && freeB G Γ z && notStar y && decide (t ≠ .non)) = true := h
    simp only [Bool.and_eq_true, decide_eq_true_eq] at h
    obtain ⟨⟨⟨⟨⟨h1, h2⟩, h3⟩, h4⟩, h5⟩, h6⟩ := h
    obtain ⟨g1, g2, g3, g4⟩ := freeB_of h2
    obtain ⟨f1, f2, f3, f4⟩ := freeB_of h4
    have he : PE X (.Call (.Name x p) [y, .Name z p2] [] pos) (lft X.K cls W (wp G Φ (.isi a [.b t]) .v)) := pe_isiL h1 h3 h5 ((ha Γ W X ok).1 y h7).1 (gl_of ok.sc g1) (ok.free x g4) (gl_of ok.sc f1) (ok.free z f4) h6 f2 f3
    exact ⟨he, pt_plain he (fun ρ S q x h => h) fun _ => rfl⟩
  · cases zz <;> exact Bool.noConfusion h, not_list fun asts => by cases asts <;> rfl⟩
theorem snd_nil : SndE G Φ cls k .nil := fun Γ W X ok => ⟨fun ast h => by cases ast <;> exact Bool.noConfusion h, fun asts h => by
  cases asts with
  | cons => exact Bool.noConfusion h
  | nil => exact ⟨pa_nilL, ppok_nil, fun _ ρ S q x h => h, fun z => absurd rfl z⟩⟩
theorem snd_cons {a b : E} (ha : SndE G Φ cls k a) (hb : SndE G Φ cls k b) : SndE G Φ cls k (.cons a b) := fun Γ W X ok => ⟨fun ast h => by cases ast <;> exact Bool.noConfusion h, fun asts h => by
  cases asts with
  | nil => exact Bool.noConfusion h
  | cons x xs =>
    have h : (notStar x && refE G a Γ x && refL G b Γ xs) = true := h
    simp only [Bool.and_eq_true] at h
    obtain ⟨⟨h1, h2⟩, h3⟩ := h
    obtain ⟨A, A'⟩ := (ha Γ W X ok).1 x h2
    obtain ⟨B1, B2, B3, B4⟩ := (hb Γ W X ok).2 xs h3
    refine ⟨pa_consL h1 A B1, ppok_cons A B2, (fun z => by cases z), fun _ pos => ?_⟩
    cases xs with
    | nil =>
      have e : b = .nil := by cases b <;> first | rfl | exact Bool.noConfusion h3
      subst e
      exact ⟨pe_one A, pw_and1 A', pe_one A, pw_or1 A'⟩
    | cons y ys =>
      obtain ⟨b1, b2, e, _⟩ := refL_cons h3
      obtain ⟨C1, C2, C3, C4⟩ := B4 (List.cons_ne_nil _ _) pos
      subst e
      exact ⟨pe_andL A C1, pw_andL A' C2, pe_orL A C3, pw_orL A' C4⟩⟩
/-- what a comprehension's text gives: for a value, for a store -/
def LcOk (X : Cx) (cls : Nat → Addr) (W : WX) (m : WE') (y tg iter : Expr) (ifs : List Expr) (scope : Scope) : Prop :=
  ∃ (own : List (Str × Nat)) (wi : TI) (g : TG) (tt : TT) (te : TE), BlkOk X.N X.env.scope scope own ∧ notSet iter = true ∧ PI X tg iter wi ∧ (∀ (s : Shared) (H : Hp) (C : Addr) (cl : List (Str × Addr)) (fp : List Addr), PG (X.blk s H scope (compEnvC scope cl C X.env) fp) tg g) ∧
      (∀ (s : Shared) (H : Hp) (C : Addr) (cl : List (Str × Addr)) (fp : List Addr), PTs (X.blk s H scope (compEnvC scope cl C X.env) fp) ifs tt) ∧ (∀ (s : Shared) (H : Hp) (C : Addr) (cl : List (Str × Addr)) (fp : List Addr), PE (X.blk s H scope (compEnvC scope cl C X.env) fp) y te) ∧
      ∀ (σ : L2.St) (H : Hp) (Q : VK), lft X.K cls W m σ H Q → tLc wi g tt te (own.map (·.2)) σ H Q
theorem snd_lcD (kk : IK) {src elt cond : E} (own : List Nat) (t : Tg) (c : Bool) (hs : SndE G Φ cls k src) (he : SndE G Φ cls k elt) (hc : SndE G Φ cls k cond) : ∀ (Γ : Gam) (W : WX) (X : Cx), XOK G Φ cls k Γ W X → ∀ (y : Expr) (gs : List Comprehension) (scope : Scope) (pos : Pos), refE G (.lc kk src own t c elt cond) Γ (.ListComp y gs scope pos) = true →
    ∃ tg iter ifs, gs = [⟨tg, iter, ifs, 0⟩] ∧ LcOk X cls W (wp G Φ (.lc kk src own t c elt cond) .v) y tg iter ifs scope := fun Γ W X ok y gs scope pos h => by
  cases gs with
  | nil => exact Bool.noConfusion h
  | cons g gs =>
    obtain ⟨tg, iter, ifs, a⟩ := g
    cases gs with
    | cons => exact Bool.noConfusion h
    | nil =>
      unfold refE at h
      simp only [Bool.and_eq_true, decide_eq_true_eq] at h
      obtain ⟨⟨⟨⟨⟨⟨⟨h1, h2⟩, h3⟩, h4⟩, h5⟩, h6⟩, h7⟩, h8⟩ := h
      subst h1
      have hb := fun (s : Shared) (H : Hp) (C : Addr) (cl : List (Str × Addr)) (fp : List Addr) => xok_blk ok s H scope C cl fp
      have hi : PI X tg iter (lftI X.K cls W kk (wp G Φ src (if kk = .all then .v else .l))) := by
        cases kk with
        | all => exact pi_allL ((hs Γ W X ok).1 iter h6).1
        | rng1 =>
          cases iter <;> first | (exact Bool.noConfusion h6) | skip
          rename_i fe vs kws p
          cases fe <;> first | (exact Bool.noConfusion h6) | skip
          rename_i x p1
          match vs, kws, h6 with
          | [e], [], h6 =>
            have h6 : (decide (x = "range") && freeB G Γ x && refL G src Γ [e]) = true := h6
            simp only [Bool.and_eq_true, decide_eq_true_eq] at h6
            obtain ⟨⟨q1, q2⟩, q3⟩ := h6
            obtain ⟨g1, g2, g3, g4⟩ := freeB_of q2
            obtain ⟨_, _, _, s1, _, _⟩ := refL_cons q3
            exact pi_rng1L q1 (gl_of ok.sc g1) (ok.free x g4) s1 ((hs Γ W X ok).2 _ q3).1
          | [], [], h => exact Bool.noConfusion h
          | _ :: _ :: _, _, h => exact Bool.noConfusion h
          | [], _ :: _, h => exact Bool.noConfusion h
          | [_], _ :: _, h => exact Bool.noConfusion h
        | rng2 =>
          cases iter <;> first | (exact Bool.noConfusion h6) | skip
          rename_i fe vs kws p
          cases fe <;> first | (exact Bool.noConfusion h6) | skip
          rename_i x p1
          match vs, kws, h6 with
          | [e, f], [], h6 =>
            have h6 : (decide (x = "range") && freeB G Γ x && refL G src Γ [e, f]) = true := h6
            simp only [Bool.and_eq_true, decide_eq_true_eq] at h6
            obtain ⟨⟨q1, q2⟩, q3⟩ := h6
            obtain ⟨g1, g2, g3, g4⟩ := freeB_of q2
            obtain ⟨_, _, _, s1, _, q4⟩ := refL_cons q3
            obtain ⟨_, _, _, s2, _, _⟩ := refL_cons q4
            exact pi_rng2L q1 (gl_of ok.sc g1) (ok.free x g4) s1 s2 ((hs Γ W X ok).2 _ q3).1
          | [], _, h => exact Bool.noConfusion h
          | [_], _, h => exact Bool.noConfusion h
          | [_, _], _ :: _, h => exact Bool.noConfusion h
          | _ :: _ :: _ :: _, _, h => exact Bool.noConfusion h
        | _ => exact Bool.noConfusion h6
      have hN : X.N.Nodup := by rw [ok.N]; exact ok.nd
      have bo : BlkOk X.N X.env.scope scope (ownL Γ own) := blkOk_by (by rw [ok.N, ok.sc]; exact h2)
      have eo : (ownL Γ own).map (·.2) = own := by
        unfold ownL
        rw [List.map_map]
        exact List.map_id own
      have lc := lcL (cls := cls) (W := W) (me := wp G Φ elt .v) (mc := wp G Φ cond .t) (c := c) (elt := y) (ifs := ifs) ok.calm hN hi bo h3 (by rw [eo]; exact h5)
        (fun s H C cl fp => pg_tg (X := X.blk s H scope (compEnvC scope cl C X.env) fp) (own := scope) (Γ := Γ) hN ok.N ok.calm (fun x hx => by
          rcases hx with hx | hx
          · have q : (relabel scope X.env).names.lookup x = some .local := lookup_relabel_local hx
            exact ⟨.inl q, .inr q⟩
          · have q : (relabel scope X.env).names.lookup x = some .cell := lookup_relS_keep (sc := X.env.scope) (by decide) hx
            refine ⟨.inr q, .inl ?_⟩
            show (scope.names.lookup x == some .cell) = true
            rw [hx]
            rfl) h4)
        (by
          have h8 := h8
          cases c <;> cases ifs with
          | nil => first | exact True.intro | exact Bool.noConfusion h8
          | cons z zs => cases zs with
            | nil => first | (exact Bool.noConfusion h8) | exact fun s H C cl fp => ((hc _ _ _ (hb s H C cl fp)).1 z h8).2
            | cons => exact Bool.noConfusion h8)
        (fun s H C cl fp => ((he _ _ _ (hb s H C cl fp)).1 y h7).1)
      obtain ⟨wi, g, tt, te, a1, a2, a3, a4, a5⟩ := lc
      rw [eo] at a5
      exact ⟨tg, iter, ifs, rfl, ownL Γ own, wi, g, tt, te, bo, h3, a1, a2, a3, a4, by rw [eo]; exact a5⟩
theorem snd_lc (kk : IK) {src elt cond : E} (own : List Nat) (t : Tg) (c : Bool) (hs : SndE G Φ cls k src) (he : SndE G Φ cls k elt) (hc : SndE G Φ cls k cond) : SndE G Φ cls k (.lc kk src own t c elt cond) := fun Γ W X ok => ⟨fun ast h => by
  cases ast <;> first | (exact Bool.noConfusion h) | skip
  rename_i y gs scope pos
  obtain ⟨tg, iter, ifs, rfl, own', wi, g, tt, te, bo, h3, a1, a2, a3, a4, a5⟩ := snd_lcD kk own t c hs he hc Γ W X ok y gs scope pos h
  have hx : PE X (.ListComp y [⟨tg, iter, ifs, 0⟩] scope pos) (lft X.K cls W (wp G Φ (.lc kk src own t c elt cond) .v)) := PE.imp (pe_lc ok.calm (by rw [ok.N]; exact ok.nd) a1 bo a2 a3 a4 (fold_of h3)) a5
  exact ⟨hx, pt_plain hx (fun ρ S q x h => h) fun _ => rfl⟩, not_list fun asts => by cases asts <;> rfl⟩
theorem snd (e : E) : SndE G Φ cls k e := by
  induction e with
  | var i => exact snd_var i
  | int i => exact snd_int i
  | str i => exact snd_str i
  | bl i => exact snd_bl i
  | non => exact snd_non
  | glo x => exact snd_glo x
  | bin op a b ha hb => exact snd_bin op ha hb
  | neg a ha => exact snd_neg ha
  | cmp op a b ha hb => exact snd_cmp op ha hb
  | chn o1 o2 a b c ha hb hc => exact snd_chn o1 o2 ha hb hc
  | and es h => exact snd_and h
  | or es h => exact snd_or h
  | not a h => exact snd_not h
  | ite t a b ht ha hb => exact snd_ite ht ha hb
  | tup es h => exact snd_tup h
  | lst es h => exact snd_lst h
  | dic kk es h => exact snd_dic kk h
  | idx a i ha hi => exact snd_idx ha hi
  | slc l u a lo hi ha hl hh => exact snd_slc l u ha hl hh
  | rvs a h => exact snd_rvs h
  | lrv a h => exact snd_lrv h
  | lset a h => exact snd_lset h
  | call f es h => exact snd_call f h
  | blt b es h => exact snd_blt b h
  | mth m o es ho h => exact snd_mth m ho h
  | isi a ts h => exact snd_isi ts h
  | lc kk src own t c elt cond hs he hc => exact snd_lc kk own t c hs he hc
  | nil => exact snd_nil
  | cons a b ha hb => exact snd_cons ha hb
end
end DL

set_option Elab.async false
set_option linter.all false
set_option maxRecDepth 100000
/-! DLh: statements: the checker, soundness -/
namespace DL
open PySem PySem.Spec PyProof.Rows L2

/-! ### the checker -/
def notLC : Expr → Bool
  | .ListComp _ _ _ _ => false
  | .SetComp _ _ _ _ => false
  | .DictComp _ _ _ _ _ => false
  | _ => true
def notTup : Expr → Bool
  | .Tuple _ _ _ => false
  | _ => true
def storB (Γ : Gam) (i : Nat) (x : Str) : Bool := decide (Γ.N[i]? = some x) && (decide (Γ.sc.names.lookup x = some .local) || decide (Γ.sc.names.lookup x = some .cell))
/-- a comprehension stored at once by a name on its line: whether the stores are exchanged -/
def swB (Γ : Gam) (x : Str) (px : Pos) : Expr → Option Bool
  | .ListComp _ _ s p => some (decide (Γ.sc.names.lookup x = some .local) && (px.line == p.line) && !(s.names.any fun q => q.1 == x && (q.2 == .local || q.2 == .cell)))
  | .SetComp _ _ _ _ => none
  | .DictComp _ _ _ _ _ => none
  | _ => some false
def funB (Γ : Gam) : Bool := match Γ.sc.kind with
  | .function => true
  | _ => false
def swapT (Γ : Gam) (ts vs : List Expr) : Option (Option (List Str)) :=
  if (!(ts.length == 2 || ts.length == 3) || vs.length != ts.length) = true then some none
  else if (vs.any fun | .Starred .. => true | _ => false) = true then some none
  else
    let line := (ts.head?.map (·.pos.line)).getD 0
    let names := ts.filterMap fun
      | .Name id pos => if Γ.sc.names.lookup id == some .local && pos.line == line then some id else none
      | _ => none
    if (names.length != ts.length || names.eraseDups.length != names.length) = true then some none
    else if vs.all (foldedForSure 8) = true then some none
    else if vs.all (constantsAlone 8) = true then none
    else some (some names)
def swapB (Γ : Gam) (ts : List Expr) : Expr → Bool
  | .Tuple vs _ _ => decide (swapT Γ ts vs = some none)
  | _ => true
def refT (G : GT) (Γ : Gam) : T → Expr → Bool
  | .nm i, .Name x _ => storB Γ i x
  | .tp l, e => tgB Γ Γ.sc (.tp l) e
  | .sub o i, .Subscript x y _ => notSlice y && refE G o Γ x && refE G i Γ y
  | _, _ => false
mutual
def refC (G : GT) (Γ : Gam) : C → Stmt → Bool
  | .set t e, .Assign [tg] v _ => refT G Γ t tg && refE G e Γ v && (match tg with
    | .Name x p => (match swB Γ x p v with | some _ => true | none => false)
    | .Tuple ts _ _ => swapB Γ ts v && notLC v
    | _ => notLC v)
  | .par i j a b, .Assign [.Tuple [.Name x p, .Name y q] k1 p1] (.Tuple [v, w] k2 p2) _ => storB Γ i x && storB Γ j y && decide (Γ.sc.names.lookup x = some .local) && decide (Γ.sc.names.lookup y = some .local) && decide (i ≠ j) &&
      decide (swapT Γ [.Name x p, .Name y q] [v, w] = some (some [x, y])) && refE G a Γ v && refE G b Γ w && notStar v && notStar w
  | .aug i op e, .AugAssign (.Name x _) o v _ => storB Γ i x && decide (op = o) && augB op && refE G e Γ v
  | .expr e, .Expr v _ => notLC v && refE G e Γ v
  | .ret e, .Return (some v) _ => refE G e Γ v
  | .retN, .Return none _ => true
  | .ite c a b, .If x s t _ => refE G c Γ x && refCs G Γ a s && refCs G Γ b t
  | .for k src t b, .For tg iter s [] _ => notSet iter && tgB Γ Γ.sc t tg &&
      (match k with
        | .all => refE G src Γ iter
        | .rng1 => (match iter with | .Call (.Name x _) [e] [] _ => decide (x = "range") && freeB G Γ x && refL G src Γ [e] | _ => false)
        | .rng2 => (match iter with | .Call (.Name x _) [e, f] [] _ => decide (x = "range") && freeB G Γ x && refL G src Γ [e, f] | _ => false)
        | _ => false) && refCs G Γ b s
  | .while c b, .While x s [] _ => refE G c Γ x && refCs G Γ b s
  | .brk, .Break _ => true
  | .cnt, .Continue _ => true
  | .pass, .Pass _ => true
  | .never, _ => true
  | _, _ => false
def refCs (G : GT) (Γ : Gam) : C → List Stmt → Bool
  | .skip, [] => true
  | .seq a b, s :: r => refC G Γ a s && refCs G Γ b r
  | .never, _ => true
  | _, _ => false
end

/-! ### contexts -/
structure XOKS (G : GT) (Φ : Call) (cls : Nat → Addr) (k : Nat) (Γ : Gam) (W : WX) (X : Cx) : Prop extends XOK G Φ cls k Γ W X where
  kind : X.env.scope.kind = .function
  po : PassesOwn (model X.prog X.w) X.A X.env X.xe
  st : ∀ x, Γ.sc.names.lookup x = some .local ∨ Γ.sc.names.lookup x = some .cell → StOk X x
theorem PS.imp {X : Cx} {e : Stmt} {t t' : TS} (h : PS X e t) (i : ∀ D σ H, t' D σ H → t D σ H) : PS X e t' := ⟨fun pins s σ H D I q => h.run pins s σ H D I (i D σ H q)⟩
theorem PSs.imp {X : Cx} {e : List Stmt} {t t' : TS} (h : PSs X e t) (i : ∀ D σ H, t' D σ H → t D σ H) : PSs X e t' := ⟨fun pins s σ H D I q => h.run pins s σ H D I (i D σ H q)⟩
/-- ends over data, as ends over the heap -/
structure EL (K : PySem.W.Frag) (cls : Nat → Addr) (W : WX) (H : Hp) (e : DE) (D : Ends) : Prop where
  nx : ∀ ρ S σ H', TK K H H' → RE K H' ρ σ → RS K H' cls S → e.nx ρ S → D.nx σ H'
  rt : QL K cls H e.rt D.rt
  bk : ∀ ρ S σ H', TK K H H' → RE K H' ρ σ → RS K H' cls S → e.bk ρ S → D.bk σ H'
  ct : ∀ ρ S σ H', TK K H H' → RE K H' ρ σ → RS K H' cls S → e.ct ρ S → D.ct σ H'
  ex : ∀ x ρ S σ c a H', TK K H H' → RE K H' ρ σ → RS K H' cls S → RX K H' cls x c a → e.ex x ρ S → W c a σ H'
abbrev WC' := DE → En → Sto → Prop
def lftS (K : PySem.W.Frag) (cls : Nat → Addr) (W : WX) (m : WC') : TS := fun D σ H => ∃ ρ S e, RE K H ρ σ ∧ RS K H cls S ∧ m e ρ S ∧ EL K cls W H e D
section
variable {K : PySem.W.Frag} {cls : Nat → Addr} {W : WX} {H H' : Hp} {e : DE} {D : Ends} {ρ : En} {σ : L2.St}
theorem EL.mono (t : TK K H H') (h : EL K cls W H e D) : EL K cls W H' e D :=
  ⟨fun ρ S σ H2 t2 => h.nx ρ S σ H2 (t.trans t2), h.rt.mono t, fun ρ S σ H2 t2 => h.bk ρ S σ H2 (t.trans t2), fun ρ S σ H2 t2 => h.ct ρ S σ H2 (t.trans t2), fun x ρ S σ c a H2 t2 => h.ex x ρ S σ c a H2 (t.trans t2)⟩
theorem EL.xl (h : EL K cls W H e D) (re : RE K H ρ σ) : XL K cls H (fun x S => e.ex x ρ S) fun c a H' => W c a σ H' := fun x S c a H' t rs rx hx => h.ex x ρ S σ c a H' t (re.mono t) rs rx hx
end

/-! ### rules -/
section
variable {X : Cx} {cls : Nat → Addr} {W : WX} {ma mb mc : WE'} {sa sb : WC'} {a b c : Expr} {pos : Pos}
theorem sw_of {v tg : Expr} {l : Nat} {env : Env} (h : notLC v = true) : swapsWith v (some tg) l env = pure false := by
  cases v <;> first | rfl | cases h
theorem sw_none {v : Expr} {l : Nat} {env : Env} (h : notLC v = true) : swapsWith v none l env = pure false := by
  cases v <;> first | rfl | cases h
theorem sole_of {v tg : Expr} {l : Nat} {env : Env} (h : notLC v = true) : swapsWithSole [tg] v l env = pure false := sw_of h
theorem blockKind_of {env : Env} (h : env.scope.kind = .function) : env.blockKind = .function := by
  unfold Env.blockKind
  rw [h]
  rfl
theorem swapT_of {Γ : Gam} {env : Env} {ts vs : List Expr} {k1 k2 : Nat} {p1 p2 : Pos} {r : Option (List Str)} (hk : env.scope.kind = .function) (hs : env.scope = Γ.sc) (h : swapT Γ ts vs = some r) :
    swappedStores [.Tuple ts k1 p1] (.Tuple vs k2 p2) env = pure r := by
  have hb := blockKind_of hk
  unfold swapT at h
  unfold swappedStores
  have eb : (env.blockKind != ScopeKind.function) = false := by rw [hb]; rfl
  have ek : ∀ id, env.kindOf id = Γ.sc.names.lookup id := fun id => by
    show env.scope.names.lookup id = _
    rw [hs]
  simp only [eb, Bool.or_false, ek, pure_bind]
  split at h
  · rename_i h1
    cases h
    exact if_pos h1
  · rename_i h1
    refine (if_neg h1).trans ?_
    split at h
    · rename_i h2
      cases h
      exact if_pos h2
    · rename_i h2
      refine (if_neg h2).trans ?_
      simp only at h
      split at h
      · rename_i h3
        cases h
        exact if_pos h3
      · rename_i h3
        refine (if_neg h3).trans ?_
        split at h
        · rename_i h4
          cases h
          exact if_pos h4
        · rename_i h4
          refine (if_neg h4).trans ?_
          split at h
          · cases h
          · rename_i h5
            cases h
            exact if_neg h5
theorem swap_of {Γ : Gam} {env : Env} {ts : List Expr} {v : Expr} {k1 : Nat} {p1 : Pos} (hk : env.scope.kind = .function) (hs : env.scope = Γ.sc) (h : swapB Γ ts v = true) : swappedStores [.Tuple ts k1 p1] v env = pure none := by
  cases v <;> first | rfl | skip
  exact swapT_of hk hs (of_decide_eq_true h)

theorem ps_exprL (hv : notLC a = true) (ha : PE X a (lft X.K cls W ma)) : PS X (.Expr a pos) (lftS X.K cls W fun e ρ S => ma ρ S (fun _ S1 => e.nx ρ S1) (fun x S => e.ex x ρ S)) :=
  PS.imp (ps_expr ha (sw_none hv)) fun D σ H ⟨ρ, S, e, re, rs, h, el⟩ => ⟨ρ, S, _, _, re, rs, h, fun d S' v H' t rs' rv hd => el.nx _ _ _ _ t (re.mono t) rs' hd, el.xl re⟩
theorem ps_retL (ha : PE X a (lft X.K cls W ma)) : PS X (.Return (some a) pos) (lftS X.K cls W fun e ρ S => ma ρ S e.rt (fun x S => e.ex x ρ S)) :=
  PS.imp (ps_ret ha) fun D σ H ⟨ρ, S, e, re, rs, h, el⟩ => ⟨ρ, S, _, _, re, rs, h, el.rt, el.xl re⟩
theorem ps_iteL {x y : List Stmt} (hc : PT X c (lftT X.K cls W mc)) (ha : PSs X x (lftS X.K cls W sa)) (hb : PSs X y (lftS X.K cls W sb)) :
    PS X (.If c x y pos) (lftS X.K cls W fun e ρ S => mc ρ S (fun d S1 => ∃ k, d = .bl k ∧ if k = true then sa e ρ S1 else sb e ρ S1) (fun x S => e.ex x ρ S)) :=
  PS.imp (ps_if hc ha hb) fun D σ H ⟨ρ, S, e, re, rs, h, el⟩ => ⟨ρ, S, _, _, re, rs, h, fun d S' H' t rs' hd => by
    obtain ⟨k, rfl, hd⟩ := hd
    refine ⟨k, rfl, ?_⟩
    cases k with
    | true => exact ⟨ρ, S', e, re.mono t, rs', hd, el.mono t⟩
    | false => exact ⟨ρ, S', e, re.mono t, rs', hd, el.mono t⟩, el.xl re⟩
theorem pss_consL {s : Stmt} {r : List Stmt} (ha : PS X s (lftS X.K cls W sa)) (hb : PSs X r (lftS X.K cls W sb)) : PSs X (s :: r) (lftS X.K cls W fun e ρ S => sa { e with nx := sb e } ρ S) :=
  PSs.imp (pss_cons ha hb) fun D σ H ⟨ρ, S, e, re, rs, h, el⟩ => ⟨ρ, S, _, re, rs, h, ⟨fun ρ' S' σ' H' t re' rs' hn => ⟨ρ', S', e, re', rs', hn, el.mono t⟩, el.rt, el.bk, el.ct, el.ex⟩⟩
theorem pss_nilL : PSs X [] (lftS X.K cls W fun e ρ S => e.nx ρ S) :=
  PSs.imp pss_nil fun D σ H ⟨ρ, S, e, re, rs, h, el⟩ => el.nx _ _ _ _ .refl re rs h
/-- a value comes to a target, by data -/
def TgOk (X : Cx) (cls : Nat → Addr) (W : WX) (g : TG) (m : DE → D → En → Sto → Prop) : Prop :=
  ∀ (d : D) (v : V) (ρ : En) (σ : L2.St) (S : Sto) (H : Hp) (e : DE) (D : Ends), RE X.K H ρ σ → RS X.K H cls S → RV X.K H d v → m e d ρ S → EL X.K cls W H e D → g v σ H D.nx
theorem ps_asgL {tg : Expr} {g : TG} {m : DE → D → En → Sto → Prop} (ha : PE X a (lft X.K cls W ma)) (hg : PG X tg g) (hs : swapsWithSole [tg] a pos.line X.env = pure false) (hw : swappedStores [tg] a X.env = pure none)
    (h1 : (assignEach [tg] X.env).map (·.2) = [assign tg X.env]) (hm : TgOk X cls W g m) :
    PS X (.Assign [tg] a pos) (lftS X.K cls W fun e ρ S => ma ρ S (fun d S1 => m e d ρ S1) (fun x S => e.ex x ρ S)) :=
  PS.imp (ps_asg ha hg hs hw h1) fun D σ H ⟨ρ, S, e, re, rs, h, el⟩ => ⟨ρ, S, _, _, re, rs, h, fun d S' v H' t rs' rv hd => hm d v ρ σ S' H' e D (re.mono t) rs' rv hd (el.mono t), el.xl re⟩
theorem tgok_nm (i : Nat) : TgOk X cls W (gName i) (fun e d ρ S => e.nx (ρ.set i (some d)) S) := fun d v ρ σ S H e D re rs rv h el => el.nx _ _ _ _ .refl (re.set rv i) rs h
theorem tgok_tp (l : List Nat) : TgOk X cls W (gT X.K (.tp l)) (fun e d ρ S => tgD (.tp l) d ρ fun ρ2 => e.nx ρ2 S) := fun d v ρ σ S H e D re rs rv h el =>
  tg_rv re rv h fun ρ' σ' re' h' _ => el.nx _ _ _ _ .refl re' rs h'
theorem set_any (hu : X.A.units + 1 < cLine) : PSet X (fun o i v H Q => rSetL o i v H Q ∨ ∃ a H', o = .ref a ∧ DPut H a i v H' ∧ Q H') := by
  intro pins s σ H o i v ov iv u Q I ro ri rv h
  rcases h with h | ⟨a, H', rfl, g, q⟩
  · exact set_list pins s σ H o i v ov iv u Q I ro ri rv h
  · obtain rfl : ov = Value.ref a := ro
    exact d_setItem hu I g ri rv fun s' I' => ⟨H', I', q⟩
theorem set_rv {o i v : D} {ov iv vv : V} {S : Sto} {H : Hp} {q : Sto → Prop} {Q : Hp → Prop} (rs : RS X.K H cls S) (ro : RV X.K H o ov) (ri : RV X.K H i iv) (rv : RV X.K H v vv) (h : setD o i v S q)
    (k : ∀ S' H', TK X.K H H' → RS X.K H' cls S' → q S' → Q H') : rSetL ov iv vv H Q ∨ ∃ a H', ov = .ref a ∧ DPut H a iv vv H' ∧ Q H' := by
  unfold setD at h
  split at h
  · rename_i a
    rw [ro.refE]
    rcases h with ⟨xs, n, j, rfl, hl, hj, h⟩ | ⟨kvs, kk, hS, hk, hl, h⟩
    · obtain ⟨_, vs, e, rp⟩ := rs.lstOf hl
      have t : TK X.K H (upd H a (.lst (vs.set j vv))) := tk_mut e mu_lst
      exact .inl ⟨a, vs, n, j, rfl, ri.intE, e, by rw [← P.len rp]; exact hj, k _ _ t (rs.put (o := .lst (xs.set j v)) e mu_lst ⟨_, upd_same, RP.mono t (P.set rv j rp)⟩) h⟩
    · obtain ⟨ws, e, kp⟩ := rs a _ hS
      have t : TK X.K H (upd H a (.dK (putK ws kk vv))) := tk_mut e mu_dK
      exact .inr ⟨a, _, rfl, .inl ⟨ws, kk, e, keyD_rv hk ri, by rw [← P.len kp]; exact hl, rfl⟩, k _ _ t (rs.put (o := .dk (putD kvs kk v)) e mu_dK ⟨_, upd_same, KP.mono t (putD_rv rv kp)⟩) h⟩
  · exact h.elim
theorem tgok_sub {mo mi : WE'} {o i : Expr} (ho : PE X o (lft X.K cls W mo)) (hi : PE X i (lft X.K cls W mi)) :
    TgOk X cls W (gSub (lft X.K cls W mo) (lft X.K cls W mi) (fun o i v H Q => rSetL o i v H Q ∨ ∃ a H', o = .ref a ∧ DPut H a i v H' ∧ Q H'))
      (fun e d ρ S => mo ρ S (fun oo S2 => mi ρ S2 (fun ii S3 => setD oo ii d S3 fun S4 => e.nx ρ S4) (fun x S => e.ex x ρ S)) (fun x S => e.ex x ρ S)) := fun d v ρ σ S H e D re rs rv h el =>
  ⟨ρ, S, _, _, re, rs, h, fun oo S1 ov H1 t1 rs1 ro h1 => ⟨ρ, S1, _, _, re.mono t1, rs1, h1, fun ii S2 iv H2 t2 rs2 ri h2 =>
    set_rv rs2 (ro.mono t2) ri (rv.mono (t1.trans t2)) h2 fun S3 H3 t3 rs3 h3 => el.nx _ _ _ _ ((t1.trans t2).trans t3) (re.mono ((t1.trans t2).trans t3)) rs3 h3, (el.mono t1).xl (re.mono t1)⟩, el.xl re⟩
theorem ps_parL {i j : Nat} {x y : Str} {px py pt : Pos} {kt k2 : Nat} {pt2 : Pos} (hc : X.calm = true) (hN : X.N.Nodup) (hi : X.N[i]? = some x) (hj : X.N[j]? = some y) (hij : i ≠ j)
    (hx : X.env.scope.names.lookup x = some .local) (hy : X.env.scope.names.lookup y = some .local) (h1 : notStar a = true) (h2 : notStar b = true) (ha : PE X a (lft X.K cls W ma)) (hb : PE X b (lft X.K cls W mb))
    (hw : swappedStores [.Tuple [.Name x px, .Name y py] kt pt] (.Tuple [a, b] k2 pt2) X.env = pure (some [x, y])) :
    PS X (.Assign [.Tuple [.Name x px, .Name y py] kt pt] (.Tuple [a, b] k2 pt2) pos) (lftS X.K cls W fun e ρ S => ma ρ S (fun d S1 => mb ρ S1 (fun f S2 => e.nx ((ρ.set i (some d)).set j (some f)) S2) (fun x S => e.ex x ρ S)) (fun x S => e.ex x ρ S)) := by
  have hA : PA X [a, b] (tCons (lft X.K cls W ma) (tCons (lft X.K cls W mb) tNil)) := pa_cons ha (pa_cons hb pa_nil (star_cons h2)) (star_cons h1)
  refine PS.imp (ps_par hc hN hi hj hij hx hy hA hw) fun D σ H ⟨ρ, S, e, re, rs, h, el⟩ => ⟨ρ, S, _, _, re, rs, h, fun d S1 v H1 t1 rs1 rv1 h1 => ⟨ρ, S1, _, _, re.mono t1, rs1, h1, fun f S2 w H2 t2 rs2 rv2 h2 =>
    ⟨v, w, rfl, el.nx _ _ _ _ (t1.trans t2) (((re.mono (t1.trans t2)).set (rv1.mono t2) i).set rv2 j) rs2 h2⟩, (el.mono t1).xl (re.mono t1)⟩, el.xl re⟩
theorem ps_augL {i : Nat} {x : Str} {px : Pos} {op : Operator} (hN : X.N.Nodup) (hi : X.N[i]? = some x) (hst : StOk X x) (hop : augB op = true) (ha : PE X a (lft X.K cls W ma)) :
    PS X (.AugAssign (.Name x px) op a pos) (lftS X.K cls W fun e ρ S => ∃ d, ρ[i]? = some (some d) ∧ ma ρ S (fun f S1 => ∃ a b n, d = .int a ∧ f = .int b ∧ augI op a b = some n ∧ e.nx (ρ.set i (some (.int n))) S1) (fun x S => e.ex x ρ S)) := by
  cases op <;> first | cases hop | skip
  · refine PS.imp (ps_aug hN hi hst.1 ha ip_add hst.2) fun D σ H ⟨ρ, S, e, re, rs, ⟨d, hd, h⟩, el⟩ => ?_
    obtain ⟨v, ev, rv⟩ := re.2 i d hd
    refine ⟨v, ev, ρ, S, _, _, re, rs, h, fun f S1 w H1 t1 rs1 rv1 h1 => ?_, el.xl re⟩
    obtain ⟨p, q, n, rfl, rfl, hn, h1⟩ := h1
    cases hn
    exact ⟨p, q, rv.intE, rv1.intE, el.nx _ _ _ _ t1 ((re.mono t1).set RV.int' i) rs1 h1⟩
  · refine PS.imp (ps_aug hN hi hst.1 ha ip_sub hst.2) fun D σ H ⟨ρ, S, e, re, rs, ⟨d, hd, h⟩, el⟩ => ?_
    obtain ⟨v, ev, rv⟩ := re.2 i d hd
    refine ⟨v, ev, ρ, S, _, _, re, rs, h, fun f S1 w H1 t1 rs1 rv1 h1 => ?_, el.xl re⟩
    obtain ⟨p, q, n, rfl, rfl, hn, h1⟩ := h1
    cases hn
    exact ⟨p, q, rv.intE, rv1.intE, el.nx _ _ _ _ t1 ((re.mono t1).set RV.int' i) rs1 h1⟩
theorem ps_forL {k : IK} {t : Tg} {tg iter : Expr} {body : List Stmt} (hp : PassesOwn (model X.prog X.w) X.A X.env X.xe) (hc : X.calm = true) (hi : PI X tg iter (lftI X.K cls W k ma)) (hg : PG X tg (gT X.K t)) (hb : PSs X body (lftS X.K cls W sb)) (hs : notSet iter = true) :
    PS X (.For tg iter body [] pos) (lftS X.K cls W fun e ρ S => ma ρ S (fun d S1 => itrD k d S1 fun items g => forD g t sb e items ρ S1) (fun x S => e.ex x ρ S)) := by
  refine PS.imp (ps_for hp hc hi hg hb (fold_of hs)) fun D σ H ⟨ρ, S, e, re, rs, h, el⟩ => ?_
  refine ⟨ρ, S, fun S1 items g => forD g t sb e items ρ S1, _, re, rs, h, ?_, el.xl re⟩
  intro S1 H1 items g J t1 rs1 hr hj
  refine ⟨fun i m σ H => ∃ ρ S, i ≤ items.length ∧ m = items.length - i ∧ TK X.K H1 H ∧ RE X.K H ρ σ ∧ RS X.K H cls S ∧ forD g t sb e (items.drop i) ρ S,
    ⟨items.length, ρ, S1, Nat.zero_le _, by simp, .refl, re.mono t1, rs1, by simpa using hr⟩, fun i m σ2 H2 hw => ?_⟩
  obtain ⟨ρ2, S2, hi2, rfl, t2, re2, rs2, h2⟩ := hw
  by_cases hlt : i < items.length
  · obtain ⟨x1, hx⟩ : ∃ x1, items[i]? = some x1 := ⟨items[i], by simp [hlt]⟩
    have hd : items.drop i = x1 :: items.drop (i + 1) := by
      rw [List.drop_eq_getElem_cons hlt]
      have : items[i] = x1 := by
        rw [List.getElem?_eq_getElem hlt] at hx
        exact Option.some.inj hx
      rw [this]
    rw [hd] at h2
    obtain ⟨hg2, h2⟩ := h2
    obtain ⟨go, hy⟩ := hj.2 i x1 S2 H2 hx t2 rs2 hg2
    refine .inr ⟨go, fun σ' H' => ∃ ρ' S', TK X.K H1 H' ∧ RE X.K H' ρ' σ' ∧ RS X.K H' cls S' ∧ forD g t sb e (items.drop (i + 1)) ρ' S',
      fun σ' H' ⟨ρ', S', t', re', rs', h'⟩ => ⟨items.length - (i + 1), by omega, ρ', S', hlt, rfl, t', re', rs', h'⟩, fun v H3 y => ?_⟩
    obtain ⟨t3, rs3, r3⟩ := hy v H3 y
    refine tg_rv (re2.mono t3) r3 h2 fun ρ4 σ4 re4 h4 _ => ?_
    refine ⟨ρ4, S2, _, re4, rs3, h4, ?_⟩
    have ee : EL X.K cls W H3 e D := el.mono (t1.trans (t2.trans t3))
    exact ⟨fun ρ' S' σ' H' t' re' rs' h' => ⟨ρ', S', (t2.trans t3).trans t', re', rs', h'⟩, ee.rt, ee.nx, fun ρ' S' σ' H' t' re' rs' h' => ⟨ρ', S', (t2.trans t3).trans t', re', rs', h'⟩, ee.ex⟩
  · have e : i = items.length := by omega
    subst e
    rw [List.drop_length] at h2
    obtain ⟨hg2, h2⟩ := h2
    exact .inl ⟨hj.1 _ S2 H2 (Nat.le_refl _) t2 rs2 hg2, el.nx _ _ _ _ (t1.trans t2) re2 rs2 h2⟩
theorem ps_whileL {body : List Stmt} (hp : PassesOwn (model X.prog X.w) X.A X.env X.xe) (hc : PT X c (lftT X.K cls W mc)) (hb : PSs X body (lftS X.K cls W sb)) :
    PS X (.While c body [] pos) (lftS X.K cls W fun e ρ S => whiD (fun ρ S Q => mc ρ S (fun d S => ∃ b, d = .bl b ∧ Q b S) (fun x S => e.ex x ρ S)) sb e ρ S) := by
  refine PS.imp (ps_while hp hc hb) fun D σ H ⟨ρ, S, e, re, rs, ⟨Wd, ⟨n0, w0⟩, step⟩, el⟩ => ?_
  refine ⟨fun n σ2 H2 => ∃ ρ S, TK X.K H H2 ∧ RE X.K H2 ρ σ2 ∧ RS X.K H2 cls S ∧ Wd n ρ S, ⟨n0, ρ, S, .refl, re, rs, w0⟩, fun n σ2 H2 hw => ?_⟩
  obtain ⟨ρ2, S2, t2, re2, rs2, hw⟩ := hw
  refine ⟨ρ2, S2, _, _, re2, rs2, step n ρ2 S2 hw, fun d S3 H3 t3 rs3 hd => ?_, (el.mono t2).xl re2⟩
  obtain ⟨b, rfl, hd⟩ := hd
  refine ⟨b, rfl, ?_⟩
  have ee : EL X.K cls W H3 e D := el.mono (t2.trans t3)
  cases b with
  | true =>
    simp only [if_true] at hd ⊢
    refine ⟨fun σ' H' => ∃ m, m < n ∧ ∃ ρ S, TK X.K H H' ∧ RE X.K H' ρ σ' ∧ RS X.K H' cls S ∧ Wd m ρ S, fun σ' H' h => h, ρ2, S3, _, re2.mono t3, rs3, hd, ?_⟩
    exact ⟨fun ρ' S' σ' H' t' re' rs' ⟨m, hm, h'⟩ => ⟨m, hm, ρ', S', (t2.trans t3).trans t', re', rs', h'⟩, ee.rt, ee.nx, fun ρ' S' σ' H' t' re' rs' ⟨m, hm, h'⟩ => ⟨m, hm, ρ', S', (t2.trans t3).trans t', re', rs', h'⟩, ee.ex⟩
  | false =>
    simp only [Bool.false_eq_true, if_false] at hd ⊢
    exact ee.nx _ _ _ _ .refl (re2.mono t3) rs3 hd
end
end DL

set_option Elab.async false
set_option linter.all false
set_option maxRecDepth 100000
/-! DLi: soundness of statements, of defs -/
namespace DL
open PySem PySem.Spec PyProof.Rows L2
section
variable {G : GT} {Φ : Call} {cls : Nat → Addr} {k : Nat}
def SndC (G : GT) (Φ : Call) (cls : Nat → Addr) (k : Nat) (c : C) : Prop := ∀ (Γ : Gam) (W : WX) (X : Cx), XOKS G Φ cls k Γ W X →
  (∀ st, refC G Γ c st = true → PS X st (lftS X.K cls W (wc G Φ c))) ∧ ∀ sts, refCs G Γ c sts = true → PSs X sts (lftS X.K cls W (wc G Φ c))
theorem not_block {c : C} {Γ : Gam} {W : WX} {X : Cx} (h : ∀ sts, refCs G Γ c sts = false) : ∀ sts, refCs G Γ c sts = true → PSs X sts (lftS X.K cls W (wc G Φ c)) := fun sts q => by
  rw [h sts] at q
  cases q
theorem storB_of {Γ : Gam} {i : Nat} {x : Str} (h : storB Γ i x = true) : Γ.N[i]? = some x ∧ (Γ.sc.names.lookup x = some .local ∨ Γ.sc.names.lookup x = some .cell) := by
  unfold storB at h
  simpa only [Bool.and_eq_true, Bool.or_eq_true, decide_eq_true_eq] using h
/-- what a walk's text gives -/
theorem walk_of {Γ : Gam} {W : WX} {X : Cx} (ok : XOK G Φ cls k Γ W X) {kk : IK} {src : E} {tg iter : Expr} (hs : SndE G Φ cls k src)
    (h6 : (match kk with
        | .all => refE G src Γ iter
        | .rng1 => (match iter with | .Call (.Name x _) [e] [] _ => decide (x = "range") && freeB G Γ x && refL G src Γ [e] | _ => false)
        | .rng2 => (match iter with | .Call (.Name x _) [e, f] [] _ => decide (x = "range") && freeB G Γ x && refL G src Γ [e, f] | _ => false)
        | _ => false) = true) : PI X tg iter (lftI X.K cls W kk (wp G Φ src (if kk = .all then .v else .l))) := by
  cases kk with
  | all => exact pi_allL ((hs Γ W X ok).1 iter h6).1
  | rng1 =>
    cases iter <;> first | (exact Bool.noConfusion h6) | skip
    rename_i fe vs kws p
    cases fe <;> first | (exact Bool.noConfusion h6) | skip
    rename_i x p1
    match vs, kws, h6 with
    | [e], [], h6 =>
      have h6 : (decide (x = "range") && freeB G Γ x && refL G src Γ [e]) = true := h6
      simp only [Bool.and_eq_true, decide_eq_true_eq] at h6
      obtain ⟨⟨q1, q2⟩, q3⟩ := h6
      obtain ⟨g1, g2, g3, g4⟩ := freeB_of q2
      obtain ⟨_, _, _, s1, _, _⟩ := refL_cons q3
      exact pi_rng1L q1 (gl_of ok.sc g1) (ok.free x g4) s1 ((hs Γ W X ok).2 _ q3).1
    | [], [], h => exact Bool.noConfusion h
    | _ :: _ :: _, _, h => exact Bool.noConfusion h
    | [], _ :: _, h => exact Bool.noConfusion h
    | [_], _ :: _, h => exact Bool.noConfusion h
  | rng2 =>
    cases iter <;> first | (exact Bool.noConfusion h6) | skip
    rename_i fe vs kws p
    cases fe <;> first | (exact Bool.noConfusion h6) | skip
    rename_i x p1
    match vs, kws, h6 with
    | [e, f], [], h6 =>
      have h6 : (decide (x = "range") && freeB G Γ x && refL G src Γ [e, f]) = true := h6
      simp only [Bool.and_eq_true, decide_eq_true_eq] at h6
      obtain ⟨⟨q1, q2⟩, q3⟩ := h6
      obtain ⟨g1, g2, g3, g4⟩ := freeB_of q2
      obtain ⟨_, _, _, s1, _, q4⟩ := refL_cons q3
      obtain ⟨_, _, _, s2, _, _⟩ := refL_cons q4
      exact pi_rng2L q1 (gl_of ok.sc g1) (ok.free x g4) s1 s2 ((hs Γ W X ok).2 _ q3).1
    | [], _, h => exact Bool.noConfusion h
    | [_], _, h => exact Bool.noConfusion h
    | [_, _], _ :: _, h => exact Bool.noConfusion h
    | _ :: _ :: _ :: _, _, h => exact Bool.noConfusion h
  | _ => exact Bool.noConfusion h6

theorem sc_set_nm (i : Nat) (e : E) : SndC G Φ cls k (.set (.nm i) e) := fun Γ W X ok => ⟨fun st h => by
  cases st <;> first | (exact Bool.noConfusion h) | skip
  rename_i tgs v pos
  cases tgs with
  | nil => exact Bool.noConfusion h
  | cons tg tgs =>
    cases tgs with
    | cons => exact Bool.noConfusion h
    | nil =>
      unfold refC at h
      simp only [Bool.and_eq_true] at h
      obtain ⟨⟨h1, h2⟩, h3⟩ := h
      cases tg <;> first | (exact Bool.noConfusion h1) | skip
      rename_i x p
      obtain ⟨hN, hst⟩ := storB_of h1
      have nd : X.N.Nodup := by rw [ok.N]; exact ok.nd
      have hN : X.N[i]? = some x := by rw [ok.N]; exact hN
      obtain ⟨s1, s2⟩ := ok.st x hst
      have he := ((snd e Γ W X ok.toXOK).1 v h2).1
      have plain : notLC v = true ∨ (∃ y gs s pp, v = .ListComp y gs s pp ∧ swapsWith v (some (.Name x p)) pos.line X.env = pure false) → PS X (.Assign [.Name x p] v pos) (lftS X.K cls W (wc G Φ (.set (.nm i) e))) := by
        intro hv
        have hsw : swapsWith v (some (.Name x p)) pos.line X.env = pure false := by
          rcases hv with hv | ⟨_, _, _, _, _, hv⟩
          · exact sw_of hv
          · exact hv
        exact PS.imp (ps_set nd hN s1 he hsw s2) fun D σ H ⟨ρ, S, ee, re, rs, h, el⟩ => ⟨ρ, S, _, _, re, rs, h, fun d S' v' H' t rs' rv hd => el.nx _ _ _ _ t ((re.mono t).set rv i) rs' hd, el.xl re⟩
      by_cases hv : notLC v = true
      · exact plain (.inl hv)
      · cases v <;> first | (exact absurd rfl hv) | skip
        case SetComp => exact Bool.noConfusion h3
        case DictComp => exact Bool.noConfusion h3
        case ListComp y gs scope pos2 =>
          have hb := blockKind_of ok.kind
          have esw : swapsWith (.ListComp y gs scope pos2) (some (.Name x p)) pos.line X.env = pure (decide (Γ.sc.names.lookup x = some .local) && (p.line == pos2.line) && !(scope.names.any fun q => q.1 == x && (q.2 == .local || q.2 == .cell))) := by
            have ek : X.env.kindOf x = Γ.sc.names.lookup x := by
              show X.env.scope.names.lookup x = _
              rw [ok.sc]
            have e1 : swapsWith (.ListComp y gs scope pos2) (some (.Name x p)) pos.line X.env = pure (X.env.blockKind == .function && X.env.kindOf x == some .local && p.line == pos2.line && !(scope.names.any fun (n, k) => n == x && (k == .local || k == .cell))) := rfl
            rw [e1, hb, ek]
            have e2 : (some NameKind.local == some NameKind.local) = true := rfl
            congr 1
            by_cases hl : List.lookup x Γ.sc.names = some .local
            · rw [hl]
              simp only [decide_true, Bool.true_and]
              rfl
            · rw [decide_eq_false hl]
              have : (List.lookup x Γ.sc.names == some NameKind.local) = false := by
                rw [beq_eq_false_iff_ne]
                exact hl
              rw [this]
              simp
          cases hsw : (decide (Γ.sc.names.lookup x = some .local) && (p.line == pos2.line) && !(scope.names.any fun q => q.1 == x && (q.2 == .local || q.2 == .cell))) with
          | false =>
            rw [hsw] at esw
            exact plain (.inr ⟨_, _, _, _, rfl, esw⟩)
          | true =>
            rw [hsw] at esw
            have hl : X.env.scope.names.lookup x = some .local := by
              rw [ok.sc]
              simp only [Bool.and_eq_true, decide_eq_true_eq] at hsw
              exact hsw.1.1
            cases e <;> first | (exact Bool.noConfusion h2) | skip
            rename_i kk src own t c elt cond
            obtain ⟨tg, iter, ifs, rfl, own', wi, g, tt, te, bo, hns, a1, a2, a3, a4, a5⟩ := snd_lcD kk own t c (snd src) (snd elt) (snd cond) Γ W X ok.toXOK y gs scope pos2 h2
            refine PS.imp (ps_setLc ok.calm nd hN hl esw a1 bo a2 a3 a4 (fold_of hns)) fun D σ H ⟨ρ, S, ee, re, rs, h, el⟩ => ?_
            exact a5 σ H _ ⟨ρ, S, _, _, re, rs, h, fun d S' v' H' t rs' rv hd => el.nx _ _ _ _ t ((re.mono t).set rv i) rs' hd, el.xl re⟩, not_block fun sts => by cases sts <;> rfl⟩
theorem each_one {tg : Expr} {env : Env} (h : notStar tg = true) : (assignEach [tg] env).map (·.2) = [assign tg env] := by
  cases tg <;> first | rfl | cases h
theorem sc_set_tp (l : List Nat) (e : E) : SndC G Φ cls k (.set (.tp l) e) := fun Γ W X ok => ⟨fun st h => by
  cases st <;> first | (exact Bool.noConfusion h) | skip
  rename_i tgs v pos
  cases tgs with
  | nil => exact Bool.noConfusion h
  | cons tg tgs =>
    cases tgs with
    | cons => exact Bool.noConfusion h
    | nil =>
      unfold refC at h
      simp only [Bool.and_eq_true] at h
      obtain ⟨⟨h1, h2⟩, h3⟩ := h
      replace h1 : tgB Γ Γ.sc (.tp l) tg = true := by cases tg <;> exact h1
      have nd : X.N.Nodup := by rw [ok.N]; exact ok.nd
      have hg := pg_tg (X := X) (Γ := Γ) (own := Γ.sc) nd ok.N ok.calm ok.st h1
      cases tg <;> first | (exact Bool.noConfusion h1) | skip
      rename_i ts kt pt
      replace h3 : (swapB Γ ts v && notLC v) = true := h3
      simp only [Bool.and_eq_true] at h3
      exact PS.imp (ps_asgL ((snd e Γ W X ok.toXOK).1 v h2).1 hg (sole_of h3.2) (swap_of ok.kind ok.sc h3.1) (each_one rfl) (tgok_tp l)) fun _ _ _ h => h, not_block fun sts => by cases sts <;> rfl⟩
theorem sc_set_sub (o i e : E) : SndC G Φ cls k (.set (.sub o i) e) := fun Γ W X ok => ⟨fun st h => by
  cases st <;> first | (exact Bool.noConfusion h) | skip
  rename_i tgs v pos
  cases tgs with
  | nil => exact Bool.noConfusion h
  | cons tg tgs =>
    cases tgs with
    | cons => exact Bool.noConfusion h
    | nil =>
      unfold refC at h
      simp only [Bool.and_eq_true] at h
      obtain ⟨⟨h1, h2⟩, h3⟩ := h
      cases tg <;> first | (exact Bool.noConfusion h1) | skip
      rename_i x y pt
      have h1 : (notSlice y && refE G o Γ x && refE G i Γ y) = true := h1
      simp only [Bool.and_eq_true] at h1
      have h3 : notLC v = true := h3
      have A := ((snd o Γ W X ok.toXOK).1 x h1.1.2).1
      have B := ((snd i Γ W X ok.toXOK).1 y h1.2).1
      have hasg : ∀ v, assign (.Subscript x y pt) X.env v = (do
          let ov ← holding [v] (eval x X.env)
          let iv ← holding [v, ov] (eval y X.env)
          standAt pt
          holding [v, ov, iv] (setItem ov iv v)
          release [v, ov, iv] []) := by
        intro v
        have h := h1.1.1
        cases y <;> first | rfl | cases h
      exact PS.imp (ps_asgL ((snd e Γ W X ok.toXOK).1 v h2).1 (pg_sub A B (set_any (hu_of ok.room)) hasg) (sole_of h3) (by cases v <;> rfl) (each_one rfl) (tgok_sub A B)) fun _ _ _ h => h, not_block fun sts => by cases sts <;> rfl⟩
theorem sc_par (i j : Nat) (a b : E) : SndC G Φ cls k (.par i j a b) := fun Γ W X ok => ⟨fun st h => by
  cases st <;> first | (exact Bool.noConfusion h) | skip
  rename_i tgs v pos
  rcases tgs with _ | ⟨tg, _ | ⟨t2, ts⟩⟩ <;> first | exact Bool.noConfusion h | skip
  · cases tg <;> first | (exact Bool.noConfusion h) | skip
    rename_i es k1 p1
    rcases es with _ | ⟨e1, _ | ⟨e2, _ | ⟨e3, es⟩⟩⟩
    · exact Bool.noConfusion h
    · cases e1 <;> exact Bool.noConfusion h
    · cases e1 <;> first | (exact Bool.noConfusion h) | skip
      rename_i x p
      cases e2 <;> first | (exact Bool.noConfusion h) | skip
      rename_i y q
      cases v <;> first | (exact Bool.noConfusion h) | skip
      rename_i vs k2 p2
      rcases vs with _ | ⟨v, _ | ⟨w, _ | ⟨w3, ws⟩⟩⟩ <;> first | exact Bool.noConfusion h | skip
      have h : (storB Γ i x && storB Γ j y && decide (Γ.sc.names.lookup x = some .local) && decide (Γ.sc.names.lookup y = some .local) && decide (i ≠ j) &&
        decide (swapT Γ [.Name x p, .Name y q] [v, w] = some (some [x, y])) && refE G a Γ v && refE G b Γ w && notStar v && notStar w) = true := h
      simp only [Bool.and_eq_true, decide_eq_true_eq] at h
      obtain ⟨⟨⟨⟨⟨⟨⟨⟨⟨h1, h2⟩, h3⟩, h4⟩, h5⟩, h6⟩, h7⟩, h8⟩, h9⟩, h10⟩ := h
      exact PS.imp (ps_parL ok.calm (by rw [ok.N]; exact ok.nd) (by rw [ok.N]; exact (storB_of h1).1) (by rw [ok.N]; exact (storB_of h2).1) h5 (by rw [ok.sc]; exact h3) (by rw [ok.sc]; exact h4) h9 h10 ((snd a Γ W X ok.toXOK).1 v h7).1 ((snd b Γ W X ok.toXOK).1 w h8).1
        (swapT_of ok.kind ok.sc h6)) fun _ _ _ h => h
    · cases e1 <;> first | (exact Bool.noConfusion h) | skip
      cases e2 <;> exact Bool.noConfusion h
  · cases tg <;> first | (exact Bool.noConfusion h) | skip
    rename_i es k1 p1
    rcases es with _ | ⟨e1, _ | ⟨e2, _ | ⟨e3, es⟩⟩⟩
    · exact Bool.noConfusion h
    · cases e1 <;> exact Bool.noConfusion h
    · cases e1 <;> first | (exact Bool.noConfusion h) | skip
      cases e2 <;> exact Bool.noConfusion h
    · cases e1 <;> first | (exact Bool.noConfusion h) | skip
      cases e2 <;> exact Bool.noConfusion h, not_block fun sts => by cases sts <;> rfl⟩
theorem sc_aug (i : Nat) (op : Operator) (e : E) : SndC G Φ cls k (.aug i op e) := fun Γ W X ok => ⟨fun st h => by
  cases st <;> first | (exact Bool.noConfusion h) | skip
  rename_i tg o v pos
  cases tg <;> first | (exact Bool.noConfusion h) | skip
  rename_i x p
  have h : (storB Γ i x && decide (op = o) && augB op && refE G e Γ v) = true := h
  simp only [Bool.and_eq_true, decide_eq_true_eq] at h
  obtain ⟨⟨⟨h1, h2⟩, h3⟩, h4⟩ := h
  subst h2
  obtain ⟨hN, hst⟩ := storB_of h1
  exact PS.imp (ps_augL (op := op) (by rw [ok.N]; exact ok.nd) (by rw [ok.N]; exact hN) (ok.st x hst) h3 ((snd e Γ W X ok.toXOK).1 v h4).1) fun _ _ _ h => h, not_block fun sts => by cases sts <;> rfl⟩
theorem sc_expr (e : E) : SndC G Φ cls k (.expr e) := fun Γ W X ok => ⟨fun st h => by
  cases st <;> first | (exact Bool.noConfusion h) | skip
  rename_i v pos
  have h : (notLC v && refE G e Γ v) = true := h
  simp only [Bool.and_eq_true] at h
  exact PS.imp (ps_exprL h.1 ((snd e Γ W X ok.toXOK).1 v h.2).1) fun _ _ _ h => h, not_block fun sts => by cases sts <;> rfl⟩
theorem sc_ret (e : E) : SndC G Φ cls k (.ret e) := fun Γ W X ok => ⟨fun st h => by
  cases st <;> first | (exact Bool.noConfusion h) | skip
  rename_i v pos
  cases v with
  | none => exact Bool.noConfusion h
  | some v => exact PS.imp (ps_retL ((snd e Γ W X ok.toXOK).1 v h).1) fun _ _ _ h => h, not_block fun sts => by cases sts <;> rfl⟩
theorem sc_retN : SndC G Φ cls k .retN := fun Γ W X ok => ⟨fun st h => by
  cases st <;> first | (exact Bool.noConfusion h) | skip
  rename_i v pos
  cases v with
  | some v => exact Bool.noConfusion h
  | none => exact PS.imp ps_retN fun D σ H ⟨ρ, S, e, re, rs, h, el⟩ => el.rt.here rs RV.non' h, not_block fun sts => by cases sts <;> rfl⟩
theorem sc_ite (c : E) {a b : C} (ha : SndC G Φ cls k a) (hb : SndC G Φ cls k b) : SndC G Φ cls k (.ite c a b) := fun Γ W X ok => ⟨fun st h => by
  cases st <;> first | (exact Bool.noConfusion h) | skip
  rename_i x s t pos
  have h : (refE G c Γ x && refCs G Γ a s && refCs G Γ b t) = true := h
  simp only [Bool.and_eq_true] at h
  exact PS.imp (ps_iteL ((snd c Γ W X ok.toXOK).1 x h.1.1).2 ((ha Γ W X ok).2 s h.1.2) ((hb Γ W X ok).2 t h.2)) fun _ _ _ h => h, not_block fun sts => by cases sts <;> rfl⟩
theorem sc_for (kk : IK) (src : E) (t : Tg) {b : C} (hb : SndC G Φ cls k b) : SndC G Φ cls k (.for kk src t b) := fun Γ W X ok => ⟨fun st h => by
  cases st <;> first | (exact Bool.noConfusion h) | skip
  rename_i tg iter s r pos
  cases r with
  | cons => exact Bool.noConfusion h
  | nil =>
    unfold refC at h
    simp only [Bool.and_eq_true] at h
    obtain ⟨⟨⟨h1, h2⟩, h3⟩, h4⟩ := h
    exact PS.imp (ps_forL ok.po ok.calm (walk_of ok.toXOK (snd src) h3) (pg_tg (own := Γ.sc) (by rw [ok.N]; exact ok.nd) ok.N ok.calm ok.st h2) ((hb Γ W X ok).2 s h4) h1) fun _ _ _ h => h, not_block fun sts => by cases sts <;> rfl⟩
theorem sc_while (c : E) {b : C} (hb : SndC G Φ cls k b) : SndC G Φ cls k (.while c b) := fun Γ W X ok => ⟨fun st h => by
  cases st <;> first | (exact Bool.noConfusion h) | skip
  rename_i x s r pos
  cases r with
  | cons => exact Bool.noConfusion h
  | nil =>
    have h : (refE G c Γ x && refCs G Γ b s) = true := h
    simp only [Bool.and_eq_true] at h
    exact PS.imp (ps_whileL ok.po ((snd c Γ W X ok.toXOK).1 x h.1).2 ((hb Γ W X ok).2 s h.2)) fun _ _ _ h => h, not_block fun sts => by cases sts <;> rfl⟩
theorem sc_brk : SndC G Φ cls k .brk := fun Γ W X ok => ⟨fun st h => by
  cases st <;> first | (exact Bool.noConfusion h) | skip
  exact PS.imp ps_break fun D σ H ⟨ρ, S, e, re, rs, h, el⟩ => el.bk _ _ _ _ .refl re rs h, not_block fun sts => by cases sts <;> rfl⟩
theorem sc_cnt : SndC G Φ cls k .cnt := fun Γ W X ok => ⟨fun st h => by
  cases st <;> first | (exact Bool.noConfusion h) | skip
  exact PS.imp ps_continue fun D σ H ⟨ρ, S, e, re, rs, h, el⟩ => el.ct _ _ _ _ .refl re rs h, not_block fun sts => by cases sts <;> rfl⟩
theorem sc_pass : SndC G Φ cls k .pass := fun Γ W X ok => ⟨fun st h => by
  cases st <;> first | (exact Bool.noConfusion h) | skip
  exact PS.imp ps_pass fun D σ H ⟨ρ, S, e, re, rs, h, el⟩ => el.nx _ _ _ _ .refl re rs h, not_block fun sts => by cases sts <;> rfl⟩
theorem sc_never : SndC G Φ cls k .never := fun Γ W X ok => ⟨fun st _ => PS.imp ps_never fun D σ H ⟨ρ, S, e, re, rs, h, el⟩ => h, fun sts _ => PSs.imp pss_never fun D σ H ⟨ρ, S, e, re, rs, h, el⟩ => h⟩
theorem sc_skip : SndC G Φ cls k .skip := fun Γ W X ok => ⟨fun st h => by cases st <;> exact Bool.noConfusion h, fun sts h => by
  cases sts with
  | cons => exact Bool.noConfusion h
  | nil => exact PSs.imp pss_nilL fun _ _ _ h => h⟩
theorem sc_seq {a b : C} (ha : SndC G Φ cls k a) (hb : SndC G Φ cls k b) : SndC G Φ cls k (.seq a b) := fun Γ W X ok => ⟨fun st h => by cases st <;> exact Bool.noConfusion h, fun sts h => by
  cases sts with
  | nil => exact Bool.noConfusion h
  | cons s r =>
    have h : (refC G Γ a s && refCs G Γ b r) = true := h
    simp only [Bool.and_eq_true] at h
    exact PSs.imp (pss_consL ((ha Γ W X ok).1 s h.1) ((hb Γ W X ok).2 r h.2)) fun _ _ _ h => h⟩
theorem sndC (c : C) : SndC G Φ cls k c := by
  induction c with
  | skip => exact sc_skip
  | seq a b ha hb => exact sc_seq ha hb
  | set t e =>
    cases t with
    | nm i => exact sc_set_nm i e
    | tp l => exact sc_set_tp l e
    | sub o i => exact sc_set_sub o i e
  | par i j a b => exact sc_par i j a b
  | aug i op e => exact sc_aug i op e
  | expr e => exact sc_expr e
  | ret e => exact sc_ret e
  | retN => exact sc_retN
  | ite c a b ha hb => exact sc_ite c ha hb
  | «for» kk src t b hb => exact sc_for kk src t hb
  | «while» c b hb => exact sc_while c hb
  | brk => exact sc_brk
  | cnt => exact sc_cnt
  | pass => exact sc_pass
  | never => exact sc_never
end
end DL

set_option Elab.async false
set_option linter.all false
set_option maxRecDepth 100000
/-! DLj: all defs of a text keep their promises; the law -/
namespace DL
open PySem PySem.Spec PyProof.Rows L2

/-- a def of the text and its lowering -/
structure DefT where
  f : Nat
  name : Str
  st : Stmt
  N : List Str
  ps : List Str
def DefT.dd (d : DefT) : He.DefD := ⟨(d.name, none), d.name, d.name, defArgs d.st, defBody d.st, defScope d.st, [], []⟩
/-- the text of a def is its lowering -/
structure DefT.Ok (G : GT) (defs : Nat → Option Fd) (d : DefT) : Prop where
  sc : FnScope d.N d.ps (defScope d.st)
  fd : ∃ b, defs d.f = some b ∧ b.np = d.ps.length ∧ b.ns = d.N.length ∧ refCs G ⟨d.N, defScope d.st⟩ b.body (defBody d.st) = true
  bn : ∀ (kV doc pm : Value) (an : Option Addr) (cdv ct : Value) (us : List Value), us.length = d.ps.length → bindArgs (PySem.W.fnOf d.name d.name (defArgs d.st) (defBody d.st) (defScope d.st) .none kV doc pm an cdv ct) ⟨us, []⟩ = pure (d.ps.zip us)
structure Facts (K : PySem.W.Frag) (mg : Str → Option Value) (G : GT) (defs : Nat → Option Fd) : Prop where
  fns : ∀ f x, G.fn f = some x → ∃ (d : DefT) (fa : Addr) (fd : FuncData), d.f = f ∧ d.name = x ∧ d.Ok G defs ∧ mg x = some (.ref fa) ∧ FunD K d.name d.name (defArgs d.st) (defBody d.st) (defScope d.st) [] [] fa fd
  cs : ∀ x d, G.cs.lookup x = some d → ∃ (u : Value) (v : V), mg x = some u ∧ RelV v u ∧ ∀ H, RV K H d v
  free : ∀ x ∈ G.free, mg x = none
section
variable {Pg : Program} {w : World} {K : PySem.W.Frag} {mg : Str → Option Value} {base : Heap} {G : GT} {defs : Nat → Option Fd} {cls : Nat → Addr}
theorem re_start {K : PySem.W.Frag} {H : Hp} {ds : List D} {vs : List V} {n : Nat} {N : List Str} (hn : n = N.length) (r : RP K H ds vs) : RE K H (startD n ds) (L2.start N vs) := by
  subst hn
  have hl := P.len r
  refine ⟨by simp [startD, L2.start, hl], fun i d h => ?_⟩
  unfold startD at h
  unfold L2.start
  by_cases hi : i < ds.length
  · rw [List.getElem?_append_left (by simpa using hi), List.getElem?_map] at h
    obtain ⟨e, he, h⟩ := Option.map_eq_some_iff.mp h
    cases h
    obtain ⟨v, hv, rv⟩ := P.get r he
    refine ⟨v, ?_, rv⟩
    rw [List.getElem?_append_left (by simp; omega), List.getElem?_map, hv]
    rfl
  · rw [List.getElem?_append_right (by simp; omega), List.getElem?_replicate] at h
    split at h <;> cases h
theorem one_ok (F : Facts K mg G defs) : ∀ (k : Nat) (d : DefT) (fa : Addr) (fd : FuncData), d.Ok G defs → FunD K d.name d.name (defArgs d.st) (defBody d.st) (defScope d.st) [] [] fa fd →
    FnOk Pg w K mg base (L2.CX Pg w) k fa fd d.ps (lsp K cls (Phi G defs k d.f)) := by
  intro k
  induction k with
  | zero =>
    intro d fa fd ok FD
    exact ⟨fun vs H Q E h => by
      obtain ⟨ds, S, q, x, _, _, h, _⟩ := h
      exact False.elim h, fun A outer s H args us vs Q E _ _ _ _ h => by
      obtain ⟨ds, S, q, x, _, _, h, _⟩ := h
      exact False.elim h⟩
  | succ k ih =>
    intro d fa fd ok FD
    obtain ⟨b, hb, hnp, hns, href⟩ := ok.fd
    refine FD.ok (CX := L2.CX Pg w) ok.sc (fun vs H Q E h => ?_) (fun cdv A outer s H vs Q E hr h => ?_)
    · obtain ⟨ds, S, q, x, rp, _, h, _⟩ := h
      unfold Phi at h
      rw [hb] at h
      rw [← P.len rp, ← hnp]
      exact h.1
    · obtain ⟨ds, S, q, x, rp, rs, h, ql, xl⟩ := h
      unfold Phi at h
      rw [hb] at h
      have okX : XOKS G (Phi G defs k) cls k ⟨d.N, defScope d.st⟩ (fun c a _ H => E c a H) (cxOf (L2.CX Pg w) Pg w K mg base d.N d.name (defScope d.st) fa cdv A outer s H E) :=
        { N := rfl, sc := rfl, nd := ok.sc.nd, calm := rfl, room := hr, tk := takes_of rfl rfl rfl rfl,
          fns := fun f x hf => by
            obtain ⟨d', fa', fd', rfl, rfl, ok', hm', FD'⟩ := F.fns f x hf
            exact ⟨fa', fd', d'.ps, hm', FD'.kp, FD'.bindsN ok'.bn, ih d' fa' fd' ok' FD'⟩
          cs := F.cs, free := F.free, kind := ok.sc.kind, po := passes_of rfl,
          st := fun x hx => ⟨hx, .inl rfl⟩ }
      refine ⟨_, (sndC b.body _ _ _ okX).2 _ href, startD b.ns ds, S, _, re_start hns rp, rs, h.2, ?_⟩
      exact ⟨fun ρ S σ H' t re rs hn => ql _ _ _ _ t rs RV.non' hn, ql, fun _ _ _ _ _ _ _ h => h, fun _ _ _ _ _ _ _ h => h, fun x ρ S σ c a H' t re rs rx hx => xl x S c a H' t rs rx hx⟩
/-- the law's promise at the heap behind the top -/
theorem law_sp {H : Hp} {a : Addr} {ns : List Int} {m : List D → Sto → QD → XD → Prop} (hO : Only H) (hS : SqL K H a (ns.map V.int)) (h : m [.fl (ns.map D.int)] (fun _ => none) (fun d _ => d = .bl true) x0) :
    lsp K cls m [.ref a] H (fun v _ => v = .bl true) fun _ _ _ => False := by
  have hf : FzL K H a (ns.map V.int) := by
    rcases hS with (e | ⟨o, e⟩) | e
    · rcases hO a with z | ⟨o, xs, z⟩
      · rw [z] at e; cases e
      · rw [z] at e; cases e
    · exact .inl ⟨o, e⟩
    · exact .inr e
  have rp : RP K H (ns.map D.int) (ns.map V.int) := by
    clear h hf hS
    induction ns with
    | nil => exact .nil
    | cons n ns ih => exact .cons RV.int' ih
  have rv0 : RV K H (.fl (ns.map D.int)) (.ref a) := by
    simp only [RV]
    exact ⟨a, _, rfl, hf, RVs.of rp⟩
  refine ⟨[.fl (ns.map D.int)], fun _ => none, fun d _ => d = .bl true, x0, .cons rv0 .nil, (fun b o e => by cases e), h, fun d S' v H' t rs rv hd => ?_, fun e S' c a H' t rs rx hx => hx⟩
  have hd : d = .bl true := hd
  subst hd
  exact rv.blE
end
end DL

set_option Elab.async false
set_option linter.all false
set_option maxRecDepth 100000
/-! DLk: the head's facts give what the walk needs -/
namespace DL
open PySem PySem.Spec PyProof.Rows L2

section
variable (K : PySem.W.Frag)
mutual
def relDB : D → Value → Bool
  | .non, .none => true
  | .bl b, .bool c => b == c
  | .int i, .int j _ => decide (i = j)
  | .str x, .str y _ => decide (x = y)
  | .tup ds, .ref a => (match K.lookup a with
    | some ⟨.type c, _, .seq its _, _⟩ => decide (c = "tuple") && (decide (its.size ≤ sizeLine) && relDBs ds its.toList)
    | _ => false)
  | _, _ => false
def relDBs : List D → List Value → Bool
  | [], [] => true
  | d :: ds, u :: us => relDB d u && relDBs ds us
  | _, _ => false
end
end
/-- v is d at every heap -/
def relDs (K : PySem.W.Frag) (ds : List D) (us : List Value) : Prop := ∃ vs : List V, Vals vs us ∧ ∀ H, RVs K H ds vs
section
variable {K : PySem.W.Frag}
mutual
theorem relDB_ok : ∀ {d : D} {u : Value}, relDB K d u = true → ∃ v : V, RelV v u ∧ ∀ H, RV K H d v
  | .non, u, h => by
    cases u <;> first | exact Bool.noConfusion h | skip
    exact ⟨.non, rfl, fun H => by simp [RV]⟩
  | .bl b, u, h => by
    cases u <;> first | exact Bool.noConfusion h | skip
    rename_i c
    have e : b = c := by
      have h1 : (b == c) = true := h
      exact eq_of_beq h1
    subst e
    exact ⟨.bl b, rfl, fun H => by simp [RV]⟩
  | .int i, u, h => by
    cases u <;> first | exact Bool.noConfusion h | skip
    rename_i j t
    have e : i = j := of_decide_eq_true h
    subst e
    exact ⟨.int i, ⟨t, rfl⟩, fun H => by simp [RV]⟩
  | .str x, u, h => by
    cases u <;> first | exact Bool.noConfusion h | skip
    rename_i j t
    have e : x = j := of_decide_eq_true h
    subst e
    exact ⟨.str x, ⟨t, rfl⟩, fun H => by simp [RV]⟩
  | .tup ds, u, h => by
    cases u <;> first | exact Bool.noConfusion h | skip
    rename_i a
    unfold relDB at h
    cases q : K.lookup a with
    | none =>
      rw [q] at h
      cases h
    | some o =>
      obtain ⟨oc, od, dt, osl⟩ := o
      rw [q] at h
      cases oc with
      | type c =>
        cases dt with
        | seq its n =>
          obtain ⟨h1, h2⟩ := He.ba (show (decide (c = "tuple") && (decide (its.size ≤ sizeLine) && relDBs K ds its.toList)) = true from h)
          obtain ⟨h3, h4⟩ := He.ba h2
          obtain ⟨vs, r1, r2⟩ := relDBs_ok h4
          refine ⟨.ref a, rfl, fun H => ?_⟩
          simp only [RV]
          exact ⟨a, vs, rfl, .inr ⟨_, its, n, q, congrArg Value.type (of_decide_eq_true h1), rfl, of_decide_eq_true h3, r1⟩, r2 H⟩
        | _ => cases h
      | _ => cases dt <;> cases h
  | .fl ds, u, h => by cases u <;> exact Bool.noConfusion h
  | .ref a, u, h => by cases u <;> exact Bool.noConfusion h
theorem relDBs_ok : ∀ {ds : List D} {us : List Value}, relDBs K ds us = true → relDs K ds us
  | [], us, h => by
    cases us <;> first | exact Bool.noConfusion h | skip
    exact ⟨[], .nil, fun H => by simp [RVs]⟩
  | d :: ds, us, h => by
    cases us <;> first | exact Bool.noConfusion h | skip
    rename_i u us
    unfold relDBs at h
    obtain ⟨h1, h2⟩ := He.ba h
    obtain ⟨v, a1, a2⟩ := relDB_ok h1
    obtain ⟨vs, b1, b2⟩ := relDBs_ok h2
    exact ⟨v :: vs, .cons a1 b1, fun H => by
      simp only [RVs]
      exact ⟨v, vs, rfl, a2 H, b2 H⟩⟩
end
def cstB (K : PySem.W.Frag) (c : Str × D) : Bool := match PySem.W.nsIn K mainGlobals c.1 with
  | some (some u) => relDB K c.2 u
  | _ => false
theorem cstB_ok {h : Heap} {mg : Str → Option Value} (X : K.In h) (N : h.Ns mainGlobals mg) {c : Str × D} (hc : cstB K c = true) : ∃ (u : Value) (v : V), mg c.1 = some u ∧ RelV v u ∧ ∀ H, RV K H c.2 v := by
  unfold cstB at hc
  cases q : PySem.W.nsIn K mainGlobals c.1 with
  | none =>
    rw [q] at hc
    cases hc
  | some o =>
    rw [q] at hc
    cases o with
    | none => cases hc
    | some u =>
      obtain ⟨v, h1, h2⟩ := relDB_ok hc
      exact ⟨u, v, PySem.W.mg_of X N q, h1, h2⟩
theorem lookup_in {β : Type} {x : Str} {d : β} : ∀ {l : List (Str × β)}, l.lookup x = some d → (x, d) ∈ l
  | [], h => by cases h
  | (y, e) :: l, h => by
    by_cases hxy : x = y
    · subst hxy
      rw [List.lookup_cons_self] at h
      cases h
      exact List.mem_cons_self
    · rw [List.lookup_cons, show (x == y) = false from beq_false_of_ne hxy] at h
      exact List.mem_cons_of_mem _ (lookup_in h)
theorem hfn_of {G : GT} {defs : Nat → Option Fd} {dts : List DefT} {l : List (Nat × Str)} (hl : l = dts.map fun d => (d.f, d.name)) (hG : ∀ n, G.fn n = l.lookup n) (ok : ∀ d ∈ dts, d.Ok G defs) : ∀ f x, G.fn f = some x → ∃ d ∈ dts, d.f = f ∧ d.name = x ∧ d.Ok G defs := by
  intro f x h
  rw [hG] at h
  have key : ∀ l : List (Nat × Str), l.lookup f = some x → (f, x) ∈ l := by
    intro l
    induction l with
    | nil => intro h; cases h
    | cons q l ih =>
      obtain ⟨y, e⟩ := q
      intro h
      by_cases hxy : f = y
      · subst hxy
        rw [List.lookup_cons_self] at h
        cases h
        exact List.mem_cons_self
      · rw [List.lookup_cons, show (f == y) = false from beq_false_of_ne hxy] at h
        exact List.mem_cons_of_mem _ (ih h)
  have m := key l h
  rw [hl] at m
  obtain ⟨d, hd, e⟩ := List.mem_map.mp m
  cases e
  exact ⟨d, hd, rfl, rfl, ok d hd⟩
/-- what the head looks at -/
def faOf (G : GT) (dts : List DefT) : List He.Fa := (dts.map fun d => .glo d.name) ++ G.free.map .free
def fnOf (dts : List DefT) : List He.DefD := dts.map DefT.dd
def exOf (G : GT) (K : PySem.W.Frag) : Bool := G.cs.all (cstB K)
theorem facts_of {G : GT} {defs : Nat → Option Fd} {dts : List DefT} {w : World} {h : Heap} {mg : Str → Option Value} (hfn : ∀ f x, G.fn f = some x → ∃ d ∈ dts, d.f = f ∧ d.name = x ∧ d.Ok G defs)
    (X : K.In h) (N : h.Ns mainGlobals mg) (c : He.SaysX (faOf G dts) (fnOf dts) [] [] (exOf G) w h K) : Facts K mg G defs where
  fns := fun f x e => by
    obtain ⟨d, hd, h1, h2, ok⟩ := hfn f x e
    obtain ⟨fd, F⟩ := c.t.d.defs (d := d.dd) (List.mem_map.mpr ⟨d, hd, rfl⟩)
    have m : mg d.name = some (.ref (He.ga K d.name)) := He.glo_ok X N (c.t.d.facts (f := .glo d.name) (List.mem_append_left _ (List.mem_map.mpr ⟨d, hd, rfl⟩)))
    exact ⟨d, He.ga K d.name, fd, h1, h2, ok, by rw [← h2]; exact m, F⟩
  cs := fun x d e => cstB_ok X N (List.all_eq_true.mp c.more _ (lookup_in e))
  free := fun x hx => He.free_ok X N (c.t.d.facts (f := .free x) (List.mem_append_right _ (List.mem_map.mpr ⟨x, hx, rfl⟩)))
/-- the law's end -/
theorem law_end {G : GT} {defs : Nat → Option Fd} {dts : List DefT} {l : PySem.W.OpenLaw} {n k m fl : Nat} {q : Program} {loose : List Str} {XP : (Str → Option Value) → Heap → Prop} {d : DefRec} {x : Str}
    (hfn : ∀ f x, G.fn f = some x → ∃ d ∈ dts, d.f = f ∧ d.name = x ∧ d.Ok G defs) (hl : G.fn fl = some d.name) (hx : ∀ dt ∈ dts, dt.f = fl → dt.ps = [x])
    (hn : l.most = some n) (hn2 : n ≤ sizeLine) (hdf : d.params.defaults = []) (hr : Room k callerA)
    (plain : ∀ ns : List Int, ns.length ≤ n → (∀ z ∈ ns, Builtin.Int.intBits z ≤ 1048576) → Phi G defs k fl [.fl (ns.map D.int)] (fun _ => none) (fun d _ => d = .bl true) x0) :
    PySem.W.WalkO q loose XP (He.hookX m (faOf G dts) (fnOf dts) [] [] (exOf G)).says l.row.toRowW d [] (fun f vs => PySem.call f vs) := by
  refine Att.attach_callB hn hdf fun w s₀ s₁ mg mb fa o pm cd doc a vs ns N Y ho hd hcd hmg hobj hints hlen hbits hg => ?_
  obtain ⟨K, KX, c⟩ := Y
  have F := facts_of hfn KX N.T.g c
  obtain ⟨dt, hd', h1, h2, ok⟩ := hfn fl d.name hl
  obtain ⟨fd, FD⟩ := c.t.d.defs (d := dt.dd) (List.mem_map.mpr ⟨dt, hd', rfl⟩)
  have h3 : mg dt.name = some (.ref (He.ga K dt.name)) := He.glo_ok KX N.T.g (c.t.d.facts (f := .glo dt.name) (List.mem_append_left _ (List.mem_map.mpr ⟨dt, hd', rfl⟩)))
  rw [h2, hmg] at h3
  have h4 : fa = He.ga K dt.name := by rw [h2]; exact Value.ref.inj (Option.some.inj h3)
  have FD : FunD K dt.name dt.name (defArgs dt.st) (defBody dt.st) (defScope dt.st) [] [] fa fd := by rw [h4]; exact FD
  have hpx : dt.ps = [x] := hx dt hd' h1
  have bn := FunD.bindsA (ps := dt.ps) FD ok.bn
  refine law_call KX N.T.g N.T.b N.T.builtins N.T.nolimit hg hobj hints (Nat.le_trans hlen hn2) hr (CX := L2.CX l.prog w) (sp := lsp K (fun _ => 0) (Phi G defs k fl)) (x := x) (fd := fd) (fun base _ _ => ?_) (fun s u => ?_) (fun H hO hS => law_sp hO hS (plain ns hlen hbits)) fun H e s' h => ?_
  · rw [← hpx, ← h1]
    exact one_ok F k dt fa fd ok FD
  · have z := bn s [u] (by rw [hpx]; rfl)
    rw [hpx] at z
    exact z
  · obtain ⟨_, _, _, _, _, _, _, _, _, _, _, _, z⟩ := h
    exact z
end
end DL

set_option Elab.async false
set_option linter.all false
set_option maxRecDepth 100000
/-! DLp: reckoning with the language's meanings -/
namespace DL
open PySem PySem.Spec PyProof.Rows L2

/-- all else stays -/
def Keep (M : List Addr) (S S' : Sto) : Prop := ∀ b o, b ∉ M → S b = some o → S' b = some o
theorem Keep.refl {M : List Addr} {S : Sto} : Keep M S S := fun _ _ _ h => h
theorem Keep.trans {M : List Addr} {S S' S'' : Sto} (h : Keep M S S') (h' : Keep M S' S'') : Keep M S S'' := fun b o hb e => h' b o hb (h b o hb e)
theorem Keep.wide {M M' : List Addr} {S S' : Sto} (h : Keep M S S') (i : ∀ b ∈ M, b ∈ M') : Keep M' S S' := fun b o hb e => h b o (fun hm => hb (i b hm)) e
theorem Keep.at {M : List Addr} {S : Sto} {a : Addr} {o : Ob} (h : a ∈ M) : Keep M S (DL.su S a o) := fun b o' hb e => by
  have hne : b ≠ a := fun x => hb (by rw [x]; exact h)
  rw [su_ne hne]; exact e
theorem Keep.new {M : List Addr} {S : Sto} {p : Addr} {o : Ob} (h : S p = none) : Keep M S (DL.su S p o) := fun b o' hb e => by
  rw [su_ne (fun x => by rw [x, h] at e; cases e)]; exact e
theorem lstOf_of {S : Sto} {a : Addr} {xs : List D} (h : S a = some (.lst xs)) : lstOf S a = some xs := by unfold lstOf; rw [h]
theorem seqD_of {S : Sto} {a : Addr} {xs : List D} (e : S a = some (.lst xs)) : seqD (.ref a) S = some xs := by simp only [seqD, e]
theorem dkOf_of {S : Sto} {a : Addr} {xs : List (Key × D)} (h : S a = some (.dk xs)) : dkOf S a = some xs := by unfold dkOf; rw [h]

/-! ### meanings, by what is at an address -/
def idxR (o : Option Ob) (i : D) (S : Sto) (Q : QD) : Prop :=
  match o with
  | some (.lst xs) => ∃ j v, i = .int j ∧ atI xs j = some v ∧ Q v S
  | some (.dk kvs) => ∃ k v, keyD i = some k ∧ lookD kvs k = some v ∧ Q v S
  | _ => False
theorem idx_ref {a : Addr} {i : D} {S : Sto} {Q : QD} (h : idxR (S a) i S Q) : idxD (.ref a) i S Q := by
  unfold idxR at h
  unfold idxD
  split at h
  · rename_i xs e
    obtain ⟨j, v, h1, h2, h3⟩ := h
    exact .inl ⟨xs, j, v, seqD_of e, h1, h2, h3⟩
  · rename_i kvs e
    obtain ⟨k, v, h1, h2, h3⟩ := h
    exact .inr ⟨a, kvs, k, v, rfl, dkOf_of e, h1, h2, h3⟩
  · exact h.elim
theorem idx_tup {xs : List D} {j : Int} {v : D} {S : Sto} {Q : QD} (h : atI xs j = some v) (q : Q v S) : idxD (.tup xs) (.int j) S Q := .inl ⟨xs, j, v, rfl, rfl, h, q⟩
theorem idx_lst {a : Addr} {xs : List D} {j : Int} {v : D} {S : Sto} {Q : QD} (e : S a = some (.lst xs)) (h : atI xs j = some v) (q : Q v S) : idxD (.ref a) (.int j) S Q := .inl ⟨xs, j, v, seqD_of e, rfl, h, q⟩
theorem idx_str {z : Str} {j : Int} {c : Nat} {S : Sto} {Q : QD} (hz : z.length ≤ sizeLine) (h : atI z.cps.toList j = some c) (q : Q (.str ⟨#[c]⟩) S) : idxD (.str z) (.int j) S Q := ⟨j, c, rfl, hz, h, q⟩
theorem idx_dk {a : Addr} {kvs : List (Key × D)} {i : D} {k : Key} {v : D} {S : Sto} {Q : QD} (e : S a = some (.dk kvs)) (hk : keyD i = some k) (h : lookD kvs k = some v) (q : Q v S) : idxD (.ref a) i S Q :=
  .inr ⟨a, kvs, k, v, rfl, dkOf_of e, hk, h, q⟩
/-- a list's place -/
theorem atI_lt {α : Type} {xs : List α} {j : Int} (h0 : 0 ≤ j) (h1 : j < xs.length) : ∃ v, v ∈ xs ∧ atI xs j = some v := by
  have hj : j.toNat < xs.length := by omega
  refine ⟨xs[j.toNat], List.getElem_mem _, ?_⟩
  unfold atI ixN
  rw [if_pos h0, if_pos h1]
  exact List.getElem?_eq_getElem hj
theorem len_tup {xs : List D} {S : Sto} {Q : Nat → Prop} (h : Q xs.length) : lenD (.tup xs) S Q := .inl ⟨xs, rfl, h⟩
theorem len_lst {a : Addr} {xs : List D} {S : Sto} {Q : Nat → Prop} (e : S a = some (.lst xs)) (h : Q xs.length) : lenD (.ref a) S Q := .inl ⟨xs, seqD_of e, h⟩
theorem set_dk {a : Addr} {kvs : List (Key × D)} {i v : D} {k : Key} {S : Sto} {Q : Sto → Prop} (e : S a = some (.dk kvs)) (hk : keyD i = some k) (hl : kvs.length < sizeLine) (q : Q (su S a (.dk (putD kvs k v)))) : setD (.ref a) i v S Q :=
  .inr ⟨kvs, k, e, hk, hl, q⟩
/-- rules by which one reckons -/
theorem ds : (∀ Q, tm .v Q = Q) ∧ (∀ Q d S, tm .v Q d S = Q d S) ∧ (∀ Q b S, tm .t Q (.bl b) S = Q (.bl b) S) ∧
    (∀ i j S Q, cmpD .Eq (.int i) (.int j) S Q = Q (decide (i = j))) ∧ (∀ i j S Q, cmpD .NotEq (.int i) (.int j) S Q = Q (!decide (i = j))) ∧
    (∀ i j S Q, cmpD .Eq (.str i) (.str j) S Q = Q (decide (i = j))) ∧ (∀ i j S Q, cmpD .NotEq (.str i) (.str j) S Q = Q (!decide (i = j))) ∧
    (∀ i j S Q, cmpD .Lt (.int i) (.int j) S Q = Q (decide (i < j))) ∧ (∀ i j S Q, cmpD .LtE (.int i) (.int j) S Q = Q (decide (i ≤ j))) ∧
    (∀ i j S Q, cmpD .Gt (.int i) (.int j) S Q = Q (decide (j < i))) ∧ (∀ i j S Q, cmpD .GtE (.int i) (.int j) S Q = Q (decide (j ≤ i))) ∧
    (∀ i j S Q, binD .Add (.int i) (.int j) S Q = Q (.int (i + j)) S) ∧ (∀ i j S Q, binD .Sub (.int i) (.int j) S Q = Q (.int (i - j)) S) ∧
    (∀ i j S Q, binD .Mult (.int i) (.int j) S Q = ((CMul i j ∨ CMulW i j) ∧ Q (.int (i * j)) S)) ∧ (∀ i j S Q, binD .Mod (.int i) (.int j) S Q = (0 < j ∧ Q (.int (i % j)) S)) ∧
    (∀ i j S Q, binD .Pow (.int i) (.int j) S Q = (CPow i j ∧ Q (.int (i ^ j.toNat)) S)) ∧ (∀ i j S Q, binD .FloorDiv (.int i) (.int j) S Q = (CDivW i j ∧ Q (.int (i / j)) S)) ∧
    (∀ d S Q, bltD .len [d] S Q = lenD d S fun n => Q (.int n) S) ∧ (∀ i j S Q, bltD .max2 [.int i, .int j] S Q = Q (.int (if j > i then j else i)) S) ∧ (∀ i j S Q, bltD .min2 [.int i, .int j] S Q = Q (.int (if j < i then j else i)) S) ∧
    (∀ k S Q, bltD .int [.bl k] S Q = Q (.int (if k then 1 else 0)) S) ∧
    (∀ i d ρ Q, tgD (.nm i) d ρ Q = Q (ρ.set i (some d))) ∧
    (∀ g t p ρ elt cond fin S, lcD g t p ρ elt cond fin [] S = (g S ∧ fin S)) ∧
    (∀ ρ, wipeD ρ [] = ρ) ∧ (∀ ρ v vs, wipeD ρ (v :: vs) = (wipeD ρ vs).set v none) ∧
    (∀ j S R, itrD .rng1 (.tup [.int j]) S R = (-(2 ^ 62) ≤ j ∧ j < 2 ^ 62 ∧ R ((List.range j.toNat).map fun n => .int ((0 : Int) + (n : Nat))) fun _ => True)) ∧
    (∀ xs S R, itrD .all (.tup xs) S R = R xs fun _ => True) ∧ (∀ xs S R, itrD .all (.fl xs) S R = R xs fun _ => True) :=
  ⟨fun _ => rfl, fun _ _ _ => rfl, fun _ _ _ => rfl, fun _ _ _ _ => rfl, fun _ _ _ _ => rfl, fun _ _ _ _ => rfl, fun _ _ _ _ => rfl, fun _ _ _ _ => rfl, fun _ _ _ _ => rfl, fun _ _ _ _ => rfl, fun _ _ _ _ => rfl,
    fun _ _ _ _ => rfl, fun _ _ _ _ => rfl, fun _ _ _ _ => rfl, fun _ _ _ _ => rfl, fun _ _ _ _ => rfl, fun _ _ _ _ => rfl, fun _ _ _ => rfl, fun _ _ _ _ => rfl, fun _ _ _ _ => rfl, fun _ _ _ => rfl, fun _ _ _ _ => rfl, fun _ _ _ _ _ _ _ _ => rfl,
    fun _ => rfl, fun _ _ _ => rfl, fun _ _ _ => rfl, fun _ _ _ => rfl, fun _ _ _ => rfl⟩
theorem sz : (([] : List D).length ≤ sizeLine) = True ∧ (∀ a0 : D, ([a0].length ≤ sizeLine) = True) ∧ (∀ a0 a1 : D, ([a0, a1].length ≤ sizeLine) = True) ∧ (∀ a0 a1 a2 : D, ([a0, a1, a2].length ≤ sizeLine) = True) ∧ (∀ a0 a1 a2 a3 : D, ([a0, a1, a2, a3].length ≤ sizeLine) = True) ∧ (∀ a0 a1 a2 a3 a4 : D, ([a0, a1, a2, a3, a4].length ≤ sizeLine) = True) ∧ (∀ a0 a1 a2 a3 a4 a5 : D, ([a0, a1, a2, a3, a4, a5].length ≤ sizeLine) = True) ∧ (∀ a0 a1 a2 a3 a4 a5 a6 : D, ([a0, a1, a2, a3, a4, a5, a6].length ≤ sizeLine) = True) ∧ (∀ a0 a1 a2 a3 a4 a5 a6 a7 : D, ([a0, a1, a2, a3, a4, a5, a6, a7].length ≤ sizeLine) = True) ∧ (∀ a0 a1 a2 a3 a4 a5 a6 a7 a8 : D, ([a0, a1, a2, a3, a4, a5, a6, a7, a8].length ≤ sizeLine) = True) ∧ (∀ a0 a1 a2 a3 a4 a5 a6 a7 a8 a9 : D, ([a0, a1, a2, a3, a4, a5, a6, a7, a8, a9].length ≤ sizeLine) = True) ∧ (∀ a0 a1 a2 a3 a4 a5 a6 a7 a8 a9 a10 : D, ([a0, a1, a2, a3, a4, a5, a6, a7, a8, a9, a10].length ≤ sizeLine) = True) ∧ (∀ a0 a1 a2 a3 a4 a5 a6 a7 a8 a9 a10 a11 : D, ([a0, a1, a2, a3, a4, a5, a6, a7, a8, a9, a10, a11].length ≤ sizeLine) = True) ∧ (∀ a0 a1 a2 a3 a4 a5 a6 a7 a8 a9 a10 a11 a12 : D, ([a0, a1, a2, a3, a4, a5, a6, a7, a8, a9, a10, a11, a12].length ≤ sizeLine) = True) :=
  ⟨eq_true (Nat.zero_le _), fun _ => eq_true (show 1 ≤ sizeLine by decide), fun _ _ => eq_true (show 2 ≤ sizeLine by decide), fun _ _ _ => eq_true (show 3 ≤ sizeLine by decide), fun _ _ _ _ => eq_true (show 4 ≤ sizeLine by decide), fun _ _ _ _ _ => eq_true (show 5 ≤ sizeLine by decide), fun _ _ _ _ _ _ => eq_true (show 6 ≤ sizeLine by decide), fun _ _ _ _ _ _ _ => eq_true (show 7 ≤ sizeLine by decide), fun _ _ _ _ _ _ _ _ => eq_true (show 8 ≤ sizeLine by decide), fun _ _ _ _ _ _ _ _ _ => eq_true (show 9 ≤ sizeLine by decide), fun _ _ _ _ _ _ _ _ _ _ => eq_true (show 10 ≤ sizeLine by decide), fun _ _ _ _ _ _ _ _ _ _ _ => eq_true (show 11 ≤ sizeLine by decide), fun _ _ _ _ _ _ _ _ _ _ _ _ => eq_true (show 12 ≤ sizeLine by decide), fun _ _ _ _ _ _ _ _ _ _ _ _ _ => eq_true (show 13 ≤ sizeLine by decide)⟩
theorem tp2 : (∀ i j x y ρ Q, tgD (.tp [i, j]) (.tup [x, y]) ρ Q = Q ((ρ.set i (some x)).set j (some y))) ∧ (∀ i j k x y z ρ Q, tgD (.tp [i, j, k]) (.tup [x, y, z]) ρ Q = Q (((ρ.set i (some x)).set j (some y)).set k (some z))) :=
  ⟨fun i j x y ρ Q => propext ⟨fun ⟨_, e, _, h⟩ => by cases e; exact h, fun h => ⟨_, rfl, rfl, h⟩⟩, fun i j k x y z ρ Q => propext ⟨fun ⟨_, e, _, h⟩ => by cases e; exact h, fun h => ⟨_, rfl, rfl, h⟩⟩⟩
theorem memF_str {x : Str} : ∀ ys : List Str, memF (.str x) (ys.map D.str) = decide (x ∈ ys)
  | [] => rfl
  | y :: ys => by
    have ih := memF_str (x := x) ys
    unfold memF at ih ⊢
    rw [List.map_cons, List.any_cons, ih]
    have e : eqF (.str y) (.str x) = (y == x) := rfl
    rw [e]
    by_cases h : x = y
    · subst h; simp
    · have h2 : (y == x) = false := beq_false_of_ne (Ne.symm h)
      rw [h2]; simp [h]
theorem flat_strs : ∀ ys : List Str, (ys.map D.str).all flatD = true
  | [] => rfl
  | _ :: ys => by rw [List.map_cons, List.all_cons, flat_strs ys]; rfl
theorem in_strs {x : Str} {b : Addr} {ys : List Str} {S : Sto} {Q : Bool → Prop} (e : S b = some (.lst (ys.map D.str))) (h : Q (decide (x ∈ ys))) : cmpD .In (.str x) (.ref b) S Q :=
  .inl ⟨_, seqD_of e, rfl, flat_strs ys, by rw [memF_str, Bool.false_bne]; exact h⟩
theorem in_strsT {x : Str} {ys : List Str} {S : Sto} {Q : Bool → Prop} (h : Q (decide (x ∈ ys))) : cmpD .In (.str x) (.tup (ys.map D.str)) S Q :=
  .inl ⟨_, rfl, rfl, flat_strs ys, by rw [memF_str, Bool.false_bne]; exact h⟩
theorem range_item {n i : Nat} {x : D} (h : ((List.range n).map fun n => D.int ((0 : Int) + (n : Nat)))[i]? = some x) : i < n ∧ x = .int (i : Nat) := by
  have hr : i < n := by
    have := (List.getElem?_eq_some_iff.mp h).1
    simpa using this
  rw [List.getElem?_map, List.getElem?_range hr] at h
  have e : D.int ((0 : Int) + (i : Nat)) = x := Option.some.inj h
  rw [← e, Int.zero_add]
  exact ⟨hr, rfl⟩
theorem prs : (∀ w S R, prt true w S R = w (fun e S2 => ∃ i, e = .int i ∧ R (some i) S2)) ∧ (∀ w S R, prt false w S R = R none S) ∧ (∀ z lo hi S Q, slcD (.str z) lo hi S Q = (z.length ≤ sizeLine ∧ Q (.str (cutS z lo hi)) S)) :=
  ⟨fun _ _ _ => rfl, fun _ _ _ => rfl, fun _ _ _ _ _ => rfl⟩
theorem strs_add {x y : Str} {S : Sto} {Q : QD} (h : x.length + y.length ≤ sizeLine) (q : Q (.str (x ++ y)) S) : binD .Add (.str x) (.str y) S Q := ⟨h, q⟩
theorem cps_add {x y : Str} : (x ++ y).cps.toList = x.cps.toList ++ y.cps.toList := by
  show (x.cps ++ y.cps).toList = _
  exact Array.toList_append
theorem len_cps {x : Str} : x.length = x.cps.toList.length := by rw [Array.length_toList]; rfl
theorem cut_to {z : Str} {k : Nat} : (cutS z none (some (k : Int))).cps.toList = z.cps.toList.take k := by
  unfold cutS
  show ((z.cps.toList.drop (HT.sIx z.length 0 none)).take (HT.sIx z.length z.length (some (k : Int)) - HT.sIx z.length 0 none)) = _
  rw [HT.sIx_none, HT.sIx_nat, List.drop_zero, Nat.sub_zero, len_cps]
  apply List.ext_getElem?
  intro i
  rw [List.getElem?_take, List.getElem?_take]
  by_cases h : i < z.cps.toList.length
  · by_cases h2 : i < k
    · rw [if_pos (by omega), if_pos h2]
    · rw [if_neg (by omega), if_neg h2]
  · rw [List.getElem?_eq_none (by omega)]
    simp
theorem cut_from {z : Str} {k : Nat} : (cutS z (some (k : Int)) none).cps.toList = z.cps.toList.drop k := by
  unfold cutS
  show ((z.cps.toList.drop (HT.sIx z.length 0 (some (k : Int)))).take (HT.sIx z.length z.length none - HT.sIx z.length 0 (some (k : Int)))) = _
  rw [HT.sIx_none, HT.sIx_nat, len_cps]
  apply List.ext_getElem?
  intro i
  rw [List.getElem?_take, List.getElem?_drop, List.getElem?_drop]
  by_cases h : k ≤ z.cps.toList.length
  · rw [Nat.min_eq_left h]
    by_cases h2 : i < z.cps.toList.length - k
    · rw [if_pos h2]
    · rw [if_neg h2, List.getElem?_eq_none (by omega)]
  · rw [Nat.min_eq_right (by omega), if_neg (by omega), List.getElem?_eq_none (by omega)]
theorem str_ext {x y : Str} (h : x.cps.toList = y.cps.toList) : x = y := by
  cases x; cases y
  congr 1
  exact Array.toList_inj.mp h
theorem strsD_map : ∀ ys : List Str, strsD (ys.map D.str) = some ys
  | [] => rfl
  | y :: ys => by
    have ih := strsD_map ys
    show (strsD (ys.map D.str)).map (y :: ·) = _
    rw [ih]; rfl
theorem isr : (∀ d S Q, cmpD .Is d .non S Q = Q (nonD d)) ∧ (∀ d S Q, cmpD .IsNot d .non S Q = Q (!nonD d)) ∧ (∀ a b S Q, cmpD .Is (.bl a) (.bl b) S Q = Q (decide (a = b))) ∧ nonD .non = true ∧ (∀ b, nonD (.bl b) = false) ∧ (∀ b, nonD (.int b) = false) ∧ (∀ b, nonD (.str b) = false) ∧ (∀ b, nonD (.tup b) = false) ∧ (∀ b, nonD (.ref b) = false) :=
  ⟨fun _ _ _ => rfl, fun _ _ _ => rfl, fun _ _ _ _ => rfl, rfl, fun _ => rfl, fun _ => rfl, fun _ => rfl, fun _ => rfl, fun _ => rfl⟩
theorem ofStr_inj {s t : String} : (Str.ofString s = Str.ofString t) = (s = t) := by
  apply propext
  constructor
  · intro h
    rw [Str.ofString_eq_toList, Str.ofString_eq_toList] at h
    have h1 : s.toList.map Char.toNat = t.toList.map Char.toNat := by
      have h2 := congrArg (fun z : Str => z.cps.toList) h
      simpa using h2
    have inj : ∀ l l' : List Char, l.map Char.toNat = l'.map Char.toNat → l = l' := by
      intro l
      induction l with
      | nil => intro l' h; cases l' <;> first | rfl | cases h
      | cons c l ih =>
        intro l' h
        cases l' with
        | nil => cases h
        | cons c' l' =>
          injection h with h1 h2
          rw [ih l' h2, Char.toNat_inj.mp h1]
    have h3 := inj _ _ h1
    exact String.toList_inj.mp h3
  · intro h; rw [h]
/-- rules of the logic -/
theorem dl : (∀ {α : Type} {x : α} {l : List α}, (x :: l)[0]? = some x) ∧ (∀ {α : Type} {x : α} {l : List α} {n : Nat}, (x :: l)[n + 1]? = l[n]?) ∧
    (∀ (x : D) (P : D → Prop), (∃ d, some (some x) = some (some d) ∧ P d) = P x) ∧ (∀ (x : Bool) (P : Bool → Prop), (∃ d, D.bl x = D.bl d ∧ P d) = P x) ∧ (∀ (x : Int) (P : Int → Prop), (∃ d, D.int x = D.int d ∧ P d) = P x) ∧
    (∀ (x : List D) (P : List D → Prop), (∃ d, D.tup x = D.tup d ∧ P d) = P x) :=
  ⟨rfl, rfl, fun x P => propext ⟨fun ⟨_, e, h⟩ => by cases e; exact h, fun h => ⟨x, rfl, h⟩⟩, fun x P => propext ⟨fun ⟨_, e, h⟩ => by cases e; exact h, fun h => ⟨x, rfl, h⟩⟩,
    fun x P => propext ⟨fun ⟨_, e, h⟩ => by cases e; exact h, fun h => ⟨x, rfl, h⟩⟩, fun x P => propext ⟨fun ⟨_, e, h⟩ => by cases e; exact h, fun h => ⟨x, rfl, h⟩⟩⟩

/-! ### statements, one by one -/
section
variable {G : GT} {Φ : Call}
theorem wc_seq {a b : C} {e : DE} {ρ : En} {S : Sto} : wc G Φ (.seq a b) e ρ S = wc G Φ a { e with nx := wc G Φ b e } ρ S := rfl
theorem wc_sq {a b : C} {e : DE} {ρ : En} {S : Sto} (h : wc G Φ a { e with nx := wc G Φ b e } ρ S) : wc G Φ (.seq a b) e ρ S := h
theorem sq_then {a b : C} {e : DE} {ρ : En} {S : Sto} (R : En → Sto → Prop) (hr : ∀ ρ S', R ρ S' → wc G Φ b e ρ S') (h : ∀ N : En → Sto → Prop, (∀ ρ S', R ρ S' → N ρ S') → wc G Φ a { e with nx := N } ρ S) : wc G Φ (.seq a b) e ρ S := h _ hr
theorem wcs : (∀ e ρ S, wc G Φ .skip e ρ S = e.nx ρ S) ∧
    (∀ i x e ρ S, wc G Φ (.set (.nm i) x) e ρ S = wp G Φ x .v ρ S (fun d S1 => e.nx (ρ.set i (some d)) S1) (fun x S => e.ex x ρ S)) ∧
    (∀ l x e ρ S, wc G Φ (.set (.tp l) x) e ρ S = wp G Φ x .v ρ S (fun d S1 => tgD (.tp l) d ρ fun ρ2 => e.nx ρ2 S1) (fun x S => e.ex x ρ S)) ∧
    (∀ o i x e ρ S, wc G Φ (.set (.sub o i) x) e ρ S = wp G Φ x .v ρ S (fun d S1 => wp G Φ o .v ρ S1 (fun oo S2 => wp G Φ i .v ρ S2 (fun ii S3 => setD oo ii d S3 fun S4 => e.nx ρ S4) (fun x S => e.ex x ρ S)) (fun x S => e.ex x ρ S)) (fun x S => e.ex x ρ S)) ∧
    (∀ x e ρ S, wc G Φ (.expr x) e ρ S = wp G Φ x .v ρ S (fun _ S1 => e.nx ρ S1) (fun x S => e.ex x ρ S)) ∧
    (∀ x e ρ S, wc G Φ (.ret x) e ρ S = wp G Φ x .v ρ S e.rt (fun x S => e.ex x ρ S)) ∧ (∀ e ρ S, wc G Φ .retN e ρ S = e.rt .non S) ∧
    (∀ c a b e ρ S, wc G Φ (.ite c a b) e ρ S = wp G Φ c .t ρ S (fun d S1 => ∃ k, d = .bl k ∧ if k = true then wc G Φ a e ρ S1 else wc G Φ b e ρ S1) (fun x S => e.ex x ρ S)) ∧
    (∀ k src t b e ρ S, wc G Φ (.for k src t b) e ρ S = wp G Φ src (if k = .all then .v else .l) ρ S (fun d S1 => itrD k d S1 fun items g => forD g t (wc G Φ b) e items ρ S1) (fun x S => e.ex x ρ S)) ∧
    (∀ c b e ρ S, wc G Φ (.while c b) e ρ S = whiD (fun ρ S Q => wp G Φ c .t ρ S (fun d S => ∃ b, d = .bl b ∧ Q b S) (fun x S => e.ex x ρ S)) (wc G Φ b) e ρ S) ∧
    (∀ e ρ S, wc G Φ .brk e ρ S = e.bk ρ S) ∧ (∀ e ρ S, wc G Φ .cnt e ρ S = e.ct ρ S) ∧ (∀ e ρ S, wc G Φ .pass e ρ S = e.nx ρ S) ∧
    (∀ i op x e ρ S, wc G Φ (.aug i op x) e ρ S = ∃ d, ρ[i]? = some (some d) ∧ wp G Φ x .v ρ S (fun f S1 => ∃ a b n, d = .int a ∧ f = .int b ∧ augI op a b = some n ∧ e.nx (ρ.set i (some (.int n))) S1) (fun x S => e.ex x ρ S)) ∧
    (∀ i j a b e ρ S, wc G Φ (.par i j a b) e ρ S = wp G Φ a .v ρ S (fun d S1 => wp G Φ b .v ρ S1 (fun f S2 => e.nx ((ρ.set i (some d)).set j (some f)) S2) (fun x S => e.ex x ρ S)) (fun x S => e.ex x ρ S)) :=
  ⟨fun _ _ _ => rfl, fun _ _ _ _ _ => rfl, fun _ _ _ _ _ => rfl, fun _ _ _ _ _ _ => rfl, fun _ _ _ _ => rfl, fun _ _ _ _ => rfl, fun _ _ _ => rfl, fun _ _ _ _ _ _ => rfl, fun _ _ _ _ _ _ _ => rfl, fun _ _ _ _ _ => rfl,
    fun _ _ _ => rfl, fun _ _ _ => rfl, fun _ _ _ => rfl, fun _ _ _ _ _ _ => rfl, fun _ _ _ _ _ _ _ => rfl⟩
end
theorem for_inv {g : Sto → Prop} {t : Tg} {body : DE → En → Sto → Prop} {e : DE} {items : List D} {ρ : En} {S : Sto} (I : Nat → En → Sto → Prop) (h0 : I 0 ρ S) (hg : ∀ i ρ S, I i ρ S → g S)
    (hs : ∀ i x ρ S (N : En → Sto → Prop), items[i]? = some x → I i ρ S → (∀ ρ S, I (i + 1) ρ S → N ρ S) → tgD t x ρ fun ρ2 => body { e with nx := N, ct := N, bk := e.nx } ρ2 S)
    (hd : ∀ ρ S, I items.length ρ S → e.nx ρ S) : forD g t body e items ρ S := by
  have key : ∀ (r pre : List D), items = pre ++ r → ∀ ρ S, I pre.length ρ S → forD g t body e r ρ S := by
    intro r
    induction r with
    | nil =>
      intro pre he ρ S h
      have e1 : items.length = pre.length := by rw [he, List.append_nil]
      exact ⟨hg _ _ _ h, hd ρ S (by rw [e1]; exact h)⟩
    | cons x r ih =>
      intro pre he ρ S h
      refine ⟨hg _ _ _ h, hs pre.length x ρ S _ (by rw [he]; simp) h fun ρ' S' h' => ih (pre ++ [x]) (by rw [he]; simp) ρ' S' (by rw [List.length_append]; exact h')⟩
  exact key items [] rfl ρ S h0
theorem whi_inv {c : En → Sto → (Bool → Sto → Prop) → Prop} {body : DE → En → Sto → Prop} {e : DE} {ρ : En} {S : Sto} (W : Nat → En → Sto → Prop) (R : En → Sto → Prop) (h0 : ∃ n, W n ρ S)
    (hs : ∀ n ρ S (N L : En → Sto → Prop), W n ρ S → (∀ m ρ S, m < n → W m ρ S → N ρ S) → (∀ ρ S, R ρ S → L ρ S) → c ρ S fun b S1 => if b = true then body { e with nx := N, ct := N, bk := L } ρ S1 else L ρ S1)
    (hd : ∀ ρ S, R ρ S → e.nx ρ S) : whiD c body e ρ S :=
  ⟨W, h0, fun n ρ S h => hs n ρ S _ e.nx h (fun m ρ S hm h => ⟨m, hm, h⟩) hd⟩
theorem lc_inv {g : Sto → Prop} {t : Tg} {p : Addr} {ρ : En} {elt : En → Sto → QD → Prop} {cond : En → Sto → (Bool → Sto → Prop) → Prop} {fin : Sto → Prop} {items : List D} {S : Sto} (I : Nat → List D → Sto → Prop) (h0 : I 0 [] S)
    (hg : ∀ i acc S, I i acc S → g S)
    (hs : ∀ i x acc S (N : Sto → Prop), items[i]? = some x → I i acc S → (∀ acc' S', I (i + 1) acc' S' → N S') → tgD t x ρ fun ρ2 => cond ρ2 S fun b S3 =>
      if b = true then elt ρ2 S3 fun y S4 => ∃ acc, lstOf S4 p = some acc ∧ acc.length < sizeLine ∧ N (su S4 p (.lst (acc ++ [y]))) else N S3)
    (hd : ∀ acc S, I items.length acc S → fin S) : lcD g t p ρ elt cond fin items S := by
  have key : ∀ (r pre : List D), items = pre ++ r → ∀ acc S, I pre.length acc S → lcD g t p ρ elt cond fin r S := by
    intro r
    induction r with
    | nil =>
      intro pre he acc S h
      have e1 : items.length = pre.length := by rw [he, List.append_nil]
      exact ⟨hg _ _ _ h, hd acc S (by rw [e1]; exact h)⟩
    | cons x r ih =>
      intro pre he acc S h
      exact ⟨hg _ _ _ h, hs pre.length x acc S _ (by rw [he]; simp) h fun acc' S' h' => ih (pre ++ [x]) (by rw [he]; simp) acc' S' (by rw [List.length_append]; exact h')⟩
  exact key items [] rfl [] S h0

/-- the deal's entries -/
def dealK (s n : Int) (l : Addr) : List (Key × D) := [(.inr "seed", .int s), (.inr "number", .int n), (.inr "left", .ref l)]
theorem deal_seed {s n : Int} {l : Addr} : lookD (dealK s n l) (.inr "seed") = some (.int s) := by kernel_rfl
theorem deal_number {s n : Int} {l : Addr} : lookD (dealK s n l) (.inr "number") = some (.int n) := by kernel_rfl
theorem deal_left {s n : Int} {l : Addr} : lookD (dealK s n l) (.inr "left") = some (.ref l) := by kernel_rfl
theorem deal_putS {s n m : Int} {l : Addr} : putD (dealK s n l) (.inr "seed") (.int m) = dealK m n l := by kernel_rfl
theorem deal_putN {s n m : Int} {l : Addr} : putD (dealK s n l) (.inr "number") (.int m) = dealK s m l := by kernel_rfl
theorem deal_len {s n : Int} {l : Addr} : (dealK s n l).length < sizeLine := by show 3 < sizeLine; decide
structure Deal (a l : Addr) (S : Sto) : Prop where
  ne : a ≠ l
  d : ∃ s n : Int, S a = some (.dk (dealK s n l)) ∧ 0 ≤ s ∧ s < 2 ^ 62 ∧ 0 ≤ n
  l : ∃ zs : List Int, S l = some (.lst (zs.map D.int)) ∧ ∀ z ∈ zs, 0 ≤ z
theorem Deal.keep {a l : Addr} {S S' : Sto} {M : List Addr} (h : Deal a l S) (k : Keep M S S') (h1 : a ∉ M) (h2 : l ∉ M) : Deal a l S' := by
  obtain ⟨ne, ⟨s, n, e, r⟩, zs, e2, r2⟩ := h
  exact ⟨ne, ⟨s, n, k _ _ h1 e, r⟩, zs, k _ _ h2 e2, r2⟩
end DL

set_option Elab.async false
set_option linter.all false
set_option maxRecDepth 100000
/-! FD19: the lowered defs of law k19, printed by gen.py -d -/
namespace DL
open PySem PySem.Spec PyProof.Rows L2
/- 82 blocks_in(row); 0 row -/
def f_blocks_in_87b1 : Fd := ⟨1, 1, (.seq (.ite (.cmp .Eq (.idx (.var 0) (.int 0)) (.str "when"))
  (.seq (.ret (.tup (.cons (.idx (.var 0) (.int 2)) (.cons (.idx (.var 0) (.int 3)) .nil))))
  .skip)
  .skip)
  (.seq (.ite (.cmp .Eq (.idx (.var 0) (.int 0)) (.str "times"))
  (.seq (.ret (.tup (.cons (.idx (.var 0) (.int 2)) .nil)))
  .skip)
  .skip)
  (.seq (.ret (.tup .nil))
  .skip)))⟩
/- 83 rows_within(rows); 0 rows, 1 found, 2 row, 3 block -/
def f_rows_within_fee7 : Fd := ⟨1, 4, (.seq (.set (.nm 1) (.lst .nil))
  (.seq (.for .all (.var 0) (.nm 2)
  (.seq (.expr (.mth .append (.var 1) (.cons (.var 2) .nil)))
  (.seq (.for .all (.call 82 (.cons (.var 2) .nil)) (.nm 3)
  (.seq (.expr (.mth .extend (.var 1) (.cons (.call 83 (.cons (.var 3) .nil)) .nil)))
  .skip))
  .skip)))
  (.seq (.ret (.var 1))
  .skip)))⟩
/- 84 rows_in(program); 0 program -/
def f_rows_in_c768 : Fd := ⟨1, 1, (.seq (.ret (.call 83 (.cons (.idx (.var 0) (.int 1)) .nil)))
  .skip)⟩
/- 85 throws_in(program); 0 program, 1 row -/
def f_throws_in_1e3b : Fd := ⟨1, 2, (.seq (.ret (.lc .all (.call 84 (.cons (.var 0) .nil)) [1] (.nm 1) true (.var 1) (.cmp .In (.idx (.var 1) (.int 0)) (.glo "THROWS"))))
  .skip)⟩
/- 86 value_of(term, values); 0 term, 1 values, 2 one, 3 other -/
def f_value_of_6728 : Fd := ⟨2, 4, (.seq (.ite (.cmp .Eq (.idx (.var 0) (.int 0)) (.str "num"))
  (.seq (.ret (.idx (.var 0) (.int 1)))
  .skip)
  .skip)
  (.seq (.ite (.cmp .Eq (.idx (.var 0) (.int 0)) (.str "name"))
  (.seq (.ret (.idx (.var 1) (.idx (.var 0) (.int 1))))
  .skip)
  .skip)
  (.seq (.set (.nm 2) (.call 86 (.cons (.idx (.var 0) (.int 2)) (.cons (.var 1) .nil))))
  (.seq (.set (.nm 3) (.call 86 (.cons (.idx (.var 0) (.int 3)) (.cons (.var 1) .nil))))
  (.seq (.ite (.cmp .Eq (.idx (.var 0) (.int 1)) (.str "<"))
  (.seq (.ret (.blt .int (.cons (.cmp .Lt (.var 2) (.var 3)) .nil)))
  .skip)
  .skip)
  (.seq (.ite (.cmp .Eq (.idx (.var 0) (.int 1)) (.str "="))
  (.seq (.ret (.blt .int (.cons (.cmp .Eq (.var 2) (.var 3)) .nil)))
  .skip)
  .skip)
  (.seq (.ite (.cmp .Eq (.idx (.var 0) (.int 1)) (.str "+"))
  (.seq (.ret (.bin .Mod (.bin .Add (.var 2) (.var 3)) (.glo "WIDE")))
  .skip)
  .skip)
  (.seq (.ite (.cmp .Eq (.idx (.var 0) (.int 1)) (.str "-"))
  (.seq (.ret (.bin .Mod (.bin .Sub (.var 2) (.var 3)) (.glo "WIDE")))
  .skip)
  .skip)
  (.seq (.ret (.bin .Mod (.bin .Mult (.var 2) (.var 3)) (.glo "WIDE")))
  .skip)))))))))⟩
/- 1020 _law_deal(_law_script, _law_base); 0 _law_script, 1 _law_base, 2 _law_cells, 3 _law_number, 4 _law_cell -/
def l_deal_6082 : Fd := ⟨2, 5, (.seq (.set (.nm 2) (.lc .all (.slc true true (.var 0) (.var 1) (.int 63)) [4] (.nm 4) false (.blt .max2 (.cons (.var 4) (.cons (.bin .Sub (.int 0) (.var 4)) .nil))) .nil))
  (.seq (.set (.nm 3) (.bin .Add (.int 7919) (.var 1)))
  (.seq (.for .all (.var 2) (.nm 4)
  (.seq (.set (.nm 3) (.bin .Mod (.bin .Add (.bin .Mult (.var 3) (.int 48271)) (.bin .Mod (.var 4) (.int 2147483629))) (.int 2147483647)))
  .skip))
  (.seq (.ret (.dic [.inr "seed", .inr "number", .inr "left"] (.cons (.var 3) (.cons (.int 0) (.cons (.lrv (.lc .all (.var 2) [4] (.nm 4) true (.var 4) (.cmp .GtE (.var 4) (.bin .Pow (.int 10) (.int 18))))) .nil)))))
  .skip))))⟩
/- 1022 _law_draw(_law_deal_here, _law_many); 0 _law_deal_here, 1 _law_many, 2 _law_number, 3 _law_one, 4 _law_other -/
def l_draw_ade5 : Fd := ⟨2, 5, (.seq (.while (.and (.cons (.cmp .Eq (.idx (.var 0) (.str "number")) (.int 0)) (.cons (.cmp .Gt (.blt .len (.cons (.idx (.var 0) (.str "left")) .nil)) (.int 0)) .nil)))
  (.seq (.set (.sub (.var 0) (.str "number")) (.mth .pop (.idx (.var 0) (.str "left")) .nil))
  .skip))
  (.seq (.set (.nm 2) (.idx (.var 0) (.str "number")))
  (.seq (.ite (.cmp .Gt (.var 2) (.int 0))
  (.seq (.set (.sub (.var 0) (.str "number")) (.bin .FloorDiv (.var 2) (.var 1)))
  (.seq (.ret (.bin .Mod (.var 2) (.var 1)))
  .skip))
  .skip)
  (.seq (.set (.nm 3) (.bin .Mod (.bin .Add (.bin .Mult (.idx (.var 0) (.str "seed")) (.int 48271)) (.int 7919)) (.int 2147483647)))
  (.seq (.set (.sub (.var 0) (.str "seed")) (.bin .Mod (.bin .Add (.bin .Mult (.var 3) (.int 40692)) (.int 104729)) (.int 2147483399)))
  (.seq (.set (.nm 4) (.bin .Mod (.bin .Mult (.idx (.var 0) (.str "seed")) (.idx (.var 0) (.str "seed"))) (.int 2147483563)))
  (.seq (.ret (.bin .Mod (.bin .Add (.bin .Mult (.bin .Mod (.bin .Mult (.var 3) (.var 3)) (.int 2147483629)) (.int 2147483563)) (.var 4)) (.var 1)))
  .skip)))))))⟩
/- 1062 _law_names(_law_deal_here, _law_many); 0 _law_deal_here, 1 _law_many, 2 _law_letters, 3 _law_core, 4 _law_at, 5 _law_turn, 6 _law_found, 7 _law_k, 8 _law_word -/
def l_names_f643 : Fd := ⟨2, 9, (.seq (.set (.nm 2) (.str "abcdefghijklmnopqrstuvwxyz"))
  (.seq (.set (.nm 3) (.mth .join (.str "") (.cons (.lc .rng1 (.cons (.call 1022 (.cons (.var 0) (.cons (.int 7) .nil))) .nil) [7] (.nm 7) false (.idx (.var 2) (.call 1022 (.cons (.var 0) (.cons (.int 26) .nil)))) .nil) .nil)))
  (.seq (.set (.nm 4) (.call 1022 (.cons (.var 0) (.cons (.bin .Add (.blt .len (.cons (.var 3) .nil)) (.int 1)) .nil))))
  (.seq (.set (.nm 5) (.call 1022 (.cons (.var 0) (.cons (.int 26) .nil))))
  (.seq (.set (.nm 6) (.lst .nil))
  (.seq (.for .rng1 (.cons (.var 1) .nil) (.nm 7)
  (.seq (.set (.nm 8) (.bin .Add (.bin .Add (.slc false true (.var 3) .nil (.var 4)) (.idx (.var 2) (.bin .Mod (.bin .Add (.var 5) (.bin .Mult (.int 7) (.var 7))) (.int 26)))) (.slc true false (.var 3) (.var 4) .nil)))
  (.seq (.ite (.cmp .In (.var 8) (.tup (.cons (.str "kinds") (.cons (.str "ladder") (.cons (.str "flat") (.cons (.str "choose") (.cons (.str "first") (.cons (.str "let") (.cons (.str "tell") (.cons (.str "when") (.cons (.str "else") (.cons (.str "times") (.cons (.str "end") (.cons (.str "of") .nil))))))))))))))
  (.seq (.set (.nm 8) (.bin .Add (.var 8) (.str "q")))
  .skip)
  .skip)
  (.seq (.expr (.mth .append (.var 6) (.cons (.var 8) .nil)))
  .skip))))
  (.seq (.ret (.var 6))
  .skip)))))))⟩
/- 1117 _law_sum(_law_deal_here, _law_many); 0 _law_deal_here, 1 _law_many, 2 _law_k -/
def l_sum_f287 : Fd := ⟨2, 3, (.seq (.ret (.blt .tuple (.cons (.lc .rng1 (.cons (.var 1) .nil) [2] (.nm 2) false (.call 1022 (.cons (.var 0) (.cons (.idx (.lst (.cons (.int 2) (.cons (.int 2) (.cons (.int 4) .nil)))) (.call 1022 (.cons (.var 0) (.cons (.int 3) .nil)))) .nil))) .nil) .nil)))
  .skip)⟩
/- 1115 _law_steep(_law_deal_here, _law_most); 0 _law_deal_here, 1 _law_most, 2 _law_some -/
def l_steep_3265 : Fd := ⟨2, 3, (.seq (.set (.nm 2) (.lst (.cons (.tup (.cons (.int 1) (.cons (.int 2) .nil))) (.cons (.tup (.cons (.int 1) (.cons (.int 3) .nil))) (.cons (.tup (.cons (.int 1) (.cons (.int 4) .nil))) (.cons (.tup (.cons (.int 1) (.cons (.int 5) .nil))) (.cons (.tup (.cons (.int 2) (.cons (.int 5) .nil))) (.cons (.tup (.cons (.int 1) (.cons (.int 6) .nil))) (.cons (.tup (.cons (.int 1) (.cons (.int 7) .nil))) (.cons (.tup (.cons (.int 2) (.cons (.int 7) .nil))) (.cons (.tup (.cons (.int 3) (.cons (.int 7) .nil))) (.cons (.tup (.cons (.int 1) (.cons (.int 8) .nil))) (.cons (.tup (.cons (.int 3) (.cons (.int 8) .nil))) (.cons (.tup (.cons (.int 1) (.cons (.int 9) .nil))) (.cons (.tup (.cons (.int 2) (.cons (.int 9) .nil))) .nil)))))))))))))))
  (.seq (.expr (.mth .append (.var 2) (.cons (.tup (.cons (.int 4) (.cons (.int 9) .nil))) .nil)))
  (.seq (.ite (.cmp .Eq (.var 1) (.int 1))
  (.seq (.set (.nm 2) (.bin .Add (.var 2) (.lst (.cons (.tup (.cons (.int 2) (.cons (.int 3) .nil))) (.cons (.tup (.cons (.int 3) (.cons (.int 4) .nil))) (.cons (.tup (.cons (.int 3) (.cons (.int 5) .nil))) (.cons (.tup (.cons (.int 4) (.cons (.int 5) .nil))) (.cons (.tup (.cons (.int 5) (.cons (.int 6) .nil))) (.cons (.tup (.cons (.int 4) (.cons (.int 7) .nil))) (.cons (.tup (.cons (.int 5) (.cons (.int 7) .nil))) (.cons (.tup (.cons (.int 6) (.cons (.int 7) .nil))) (.cons (.tup (.cons (.int 5) (.cons (.int 8) .nil))) (.cons (.tup (.cons (.int 7) (.cons (.int 8) .nil))) (.cons (.tup (.cons (.int 5) (.cons (.int 9) .nil))) (.cons (.tup (.cons (.int 7) (.cons (.int 9) .nil))) .nil)))))))))))))))
  (.seq (.expr (.mth .append (.var 2) (.cons (.tup (.cons (.int 8) (.cons (.int 9) .nil))) .nil)))
  .skip))
  .skip)
  (.seq (.ret (.idx (.var 2) (.call 1022 (.cons (.var 0) (.cons (.blt .len (.cons (.var 2) .nil)) .nil)))))
  .skip))))⟩
/- 1127 _law_throw(_law_deal_here, _law_many, _law_x); 0 _law_deal_here, 1 _law_many, 2 _law_x, 3 _law_form, 4 _law_least, 5 _law_low, 6 _law_high, 7 _law_sums, 8 _law_mark, 9 _law_k -/
def l_throw_e024 : Fd := ⟨3, 10, (.seq (.set (.nm 3) (.call 1022 (.cons (.var 0) (.cons (.int 4) .nil))))
  (.seq (.set (.nm 4) (.blt .int (.cons (.cmp .Eq (.var 3) (.int 3)) .nil)))
  (.seq (.set (.nm 5) (.call 1022 (.cons (.var 0) (.cons (.bin .Sub (.int 10) (.var 4)) .nil))))
  (.seq (.set (.nm 6) (.bin .Add (.bin .Add (.var 5) (.var 4)) (.call 1022 (.cons (.var 0) (.cons (.bin .Sub (.bin .Sub (.int 10) (.var 5)) (.var 4)) .nil)))))
  (.seq (.ite (.cmp .Eq (.var 3) (.int 0))
  (.seq (.ret (.tup (.cons (.str "ladder") (.cons (.var 2) (.cons (.call 1117 (.cons (.var 0) (.cons (.var 1) .nil))) (.cons (.call 1115 (.cons (.var 0) (.cons (.int 1) .nil))) (.cons (.var 5) (.cons (.var 6) .nil))))))))
  .skip)
  .skip)
  (.seq (.ite (.cmp .Eq (.var 3) (.int 1))
  (.seq (.ret (.tup (.cons (.str "flat") (.cons (.var 2) (.cons (.call 1117 (.cons (.var 0) (.cons (.var 1) .nil))) (.cons (.call 1022 (.cons (.var 0) (.cons (.int 5) .nil))) (.cons (.var 5) (.cons (.var 6) .nil))))))))
  .skip)
  .skip)
  (.seq (.set (.nm 7) (.blt .tuple (.cons (.lc .rng1 (.cons (.bin .Add (.int 1) (.call 1022 (.cons (.var 0) (.cons (.int 4) .nil)))) .nil) [9] (.nm 9) false (.call 1117 (.cons (.var 0) (.cons (.var 1) .nil))) .nil) .nil)))
  (.seq (.ite (.cmp .Eq (.var 3) (.int 2))
  (.seq (.ret (.tup (.cons (.str "choose") (.cons (.var 2) (.cons (.var 7) (.cons (.call 1115 (.cons (.var 0) (.cons (.int 1) .nil))) (.cons (.var 5) (.cons (.var 6) .nil))))))))
  .skip)
  .skip)
  (.seq (.set (.nm 8) (.bin .Add (.var 5) (.call 1022 (.cons (.var 0) (.cons (.bin .Add (.bin .Sub (.var 6) (.var 5)) (.int 1)) .nil)))))
  (.seq (.ret (.tup (.cons (.str "first") (.cons (.var 2) (.cons (.var 8) (.cons (.call 1115 (.cons (.var 0) (.cons (.int 1) .nil))) (.cons (.call 1115 (.cons (.var 0) (.cons (.int 2) .nil))) (.cons (.var 7) (.cons (.var 5) (.cons (.var 6) .nil))))))))))
  .skip))))))))))⟩
/- 1124 _law_term(_law_deal_here, _law_known, _law_room, _law_deep); 0 _law_deal_here, 1 _law_known, 2 _law_room, 3 _law_deep, 4 _law_part, 5 _law_one -/
def l_term_77e0 : Fd := ⟨4, 6, (.seq (.ite (.and (.cons (.cmp .Gt (.var 2) (.int 2)) (.cons (.cmp .Gt (.var 3) (.int 1)) (.cons (.cmp .Gt (.call 1022 (.cons (.var 0) (.cons (.int 3) .nil))) (.int 0)) .nil))))
  (.seq (.set (.nm 4) (.bin .Add (.int 1) (.call 1022 (.cons (.var 0) (.cons (.bin .Sub (.var 2) (.int 2)) .nil)))))
  (.seq (.set (.nm 5) (.call 1124 (.cons (.var 0) (.cons (.var 1) (.cons (.var 4) (.cons (.bin .Sub (.var 3) (.int 1)) .nil))))))
  (.seq (.ret (.tup (.cons (.str "op") (.cons (.idx (.str "+-*<=") (.call 1022 (.cons (.var 0) (.cons (.int 5) .nil)))) (.cons (.var 5) (.cons (.call 1124 (.cons (.var 0) (.cons (.var 1) (.cons (.bin .Sub (.bin .Sub (.var 2) (.int 1)) (.var 4)) (.cons (.bin .Sub (.var 3) (.int 1)) .nil))))) .nil))))))
  .skip)))
  .skip)
  (.seq (.ite (.and (.cons (.cmp .Gt (.blt .len (.cons (.var 1) .nil)) (.int 0)) (.cons (.cmp .Gt (.call 1022 (.cons (.var 0) (.cons (.int 4) .nil))) (.int 0)) .nil)))
  (.seq (.ret (.tup (.cons (.str "name") (.cons (.idx (.var 1) (.call 1022 (.cons (.var 0) (.cons (.blt .len (.cons (.var 1) .nil)) .nil)))) .nil))))
  .skip)
  .skip)
  (.seq (.ret (.tup (.cons (.str "num") (.cons (.call 1022 (.cons (.var 0) (.cons (.idx (.lst (.cons (.int 3) (.cons (.int 10) (.cons (.int 1000) .nil)))) (.call 1022 (.cons (.var 0) (.cons (.int 3) .nil)))) .nil))) .nil))))
  .skip)))⟩
/- 1108 _law_setting(_law_deal_here, _law_scene, _law_known, _law_x); 0 _law_deal_here, 1 _law_scene, 2 _law_known, 3 _law_x -/
def l_setting_a142 : Fd := ⟨4, 4, (.seq (.set (.sub (.var 1) (.str "left")) (.bin .Sub (.idx (.var 1) (.str "left")) (.int 1)))
  (.seq (.ite (.cmp .Lt (.call 1022 (.cons (.var 0) (.cons (.int 5) .nil))) (.int 3))
  (.seq (.ret (.call 1127 (.cons (.var 0) (.cons (.idx (.var 1) (.str "many")) (.cons (.var 3) .nil)))))
  .skip)
  .skip)
  (.seq (.ret (.tup (.cons (.str "let") (.cons (.var 3) (.cons (.call 1124 (.cons (.var 0) (.cons (.var 2) (.cons (.bin .Add (.int 1) (.call 1022 (.cons (.var 0) (.cons (.int 12) .nil)))) (.cons (.int 6) .nil))))) .nil)))))
  .skip)))⟩
/- 1138 _law_when(_law_deal_here, _law_scene, _law_known, _law_tells, _law_deep); 0 _law_deal_here, 1 _law_scene, 2 _law_known, 3 _law_tells, 4 _law_deep, 5 _law_term_here, 6 _law_one, 7 _law_ones, 8 _law_other, 9 _law_others, 10 _law_name -/
def l_when_2570 : Fd := ⟨5, 11, (.seq (.set (.sub (.var 1) (.str "left")) (.bin .Sub (.bin .Sub (.idx (.var 1) (.str "left")) (.int 1)) (.var 3)))
  (.seq (.set (.nm 5) (.call 1124 (.cons (.var 0) (.cons (.var 2) (.cons (.bin .Add (.int 1) (.call 1022 (.cons (.var 0) (.cons (.int 5) .nil)))) (.cons (.int 3) .nil))))))
  (.seq (.set (.tp [6, 7]) (.call 1012 (.cons (.var 0) (.cons (.var 1) (.cons (.var 2) (.cons (.var 3) (.cons (.bin .Add (.var 4) (.int 1)) .nil)))))))
  (.seq (.set (.tp [8, 9]) (.call 1012 (.cons (.var 0) (.cons (.var 1) (.cons (.var 2) (.cons (.var 3) (.cons (.bin .Add (.var 4) (.int 1)) .nil)))))))
  (.seq (.ret (.tup (.cons (.tup (.cons (.str "when") (.cons (.var 5) (.cons (.var 6) (.cons (.var 8) .nil))))) (.cons (.lc .all (.var 7) [10] (.nm 10) true (.var 10) (.cmp .In (.var 10) (.var 9))) .nil))))
  .skip)))))⟩
/- 1012 _law_block(_law_deal_here, _law_scene, _law_known, _law_tells, _law_deep); 0 _law_deal_here, 1 _law_scene, 2 _law_known, 3 _law_tells, 4 _law_deep, 5 _law_rows, 6 _law_k, 7 _law_form, 8 _law_inner, 9 _law_turns, 10 _law_x, 11 _law_row -/
def l_block_57fe : Fd := ⟨5, 12, (.seq (.set (.nm 5) (.lst .nil))
  (.seq (.for .rng1 (.cons (.call 1022 (.cons (.var 0) (.cons (.idx (.lst (.cons (.int 8) (.cons (.int 5) (.cons (.int 3) (.cons (.int 3) .nil))))) (.var 4)) .nil))) .nil) (.nm 6)
  (.seq (.set (.nm 7) (.call 1022 (.cons (.var 0) (.cons (.int 8) .nil))))
  (.seq (.set (.nm 8) (.call 1022 (.cons (.var 0) (.cons (.bin .Add (.var 3) (.int 1)) .nil))))
  (.seq (.set (.nm 9) (.bin .Add (.int 1) (.call 1022 (.cons (.var 0) (.cons (.int 3) .nil)))))
  (.seq (.ite (.and (.cons (.cmp .Eq (.var 7) (.int 0)) (.cons (.cmp .Gt (.var 3) (.int 0)) .nil)))
  (.seq (.set (.nm 3) (.bin .Sub (.var 3) (.int 1)))
  (.seq (.expr (.mth .append (.var 5) (.cons (.tup (.cons (.str "tell") (.cons (.call 1124 (.cons (.var 0) (.cons (.var 2) (.cons (.bin .Add (.int 1) (.call 1022 (.cons (.var 0) (.cons (.int 12) .nil)))) (.cons (.int 6) .nil))))) .nil))) .nil)))
  .skip))
  (.seq (.ite (.and (.cons (.cmp .Lt (.var 7) (.int 5)) (.cons (.cmp .Gt (.idx (.var 1) (.str "left")) (.int 0)) .nil)))
  (.seq (.set (.nm 10) (.idx (.idx (.var 1) (.str "names")) (.call 1022 (.cons (.var 0) (.cons (.blt .len (.cons (.idx (.var 1) (.str "names")) .nil)) .nil)))))
  (.seq (.expr (.mth .append (.var 5) (.cons (.call 1108 (.cons (.var 0) (.cons (.var 1) (.cons (.var 2) (.cons (.var 10) .nil))))) .nil)))
  (.seq (.set (.nm 2) (.bin .Add (.var 2) (.lst (.cons (.var 10) .nil))))
  .skip)))
  (.seq (.ite (.and (.cons (.cmp .Lt (.var 7) (.int 7)) (.cons (.cmp .Lt (.var 4) (.int 3)) (.cons (.cmp .Gt (.idx (.var 1) (.str "left")) (.var 8)) .nil))))
  (.seq (.set (.nm 3) (.bin .Sub (.var 3) (.var 8)))
  (.seq (.set (.tp [11, 2]) (.call 1138 (.cons (.var 0) (.cons (.var 1) (.cons (.var 2) (.cons (.var 8) (.cons (.var 4) .nil)))))))
  (.seq (.expr (.mth .append (.var 5) (.cons (.var 11) .nil)))
  .skip)))
  (.seq (.ite (.and (.cons (.cmp .Eq (.var 7) (.int 7)) (.cons (.cmp .Lt (.var 4) (.int 3)) (.cons (.cmp .Gt (.idx (.var 1) (.str "left")) (.int 0)) (.cons (.cmp .LtE (.bin .Mult (.var 8) (.var 9)) (.var 3)) .nil)))))
  (.seq (.set (.sub (.var 1) (.str "left")) (.bin .Sub (.bin .Add (.bin .Sub (.idx (.var 1) (.str "left")) (.int 1)) (.bin .Mult (.var 8) (.var 9))) (.var 8)))
  (.seq (.set (.nm 3) (.bin .Sub (.var 3) (.bin .Mult (.var 8) (.var 9))))
  (.seq (.set (.tp [11, 2]) (.call 1012 (.cons (.var 0) (.cons (.var 1) (.cons (.var 2) (.cons (.var 8) (.cons (.bin .Add (.var 4) (.int 1)) .nil)))))))
  (.seq (.expr (.mth .append (.var 5) (.cons (.tup (.cons (.str "times") (.cons (.var 9) (.cons (.var 11) .nil)))) .nil)))
  .skip))))
  .skip)
  .skip))
  .skip))
  .skip))
  .skip)))))
  (.seq (.for .rng1 (.cons (.var 3) .nil) (.nm 6)
  (.seq (.expr (.mth .append (.var 5) (.cons (.tup (.cons (.str "tell") (.cons (.call 1124 (.cons (.var 0) (.cons (.var 2) (.cons (.bin .Add (.int 1) (.call 1022 (.cons (.var 0) (.cons (.int 6) .nil)))) (.cons (.int 4) .nil))))) .nil))) .nil)))
  .skip))
  (.seq (.ret (.tup (.cons (.blt .tuple (.cons (.var 5) .nil)) (.cons (.var 2) .nil))))
  .skip))))⟩
/- 1089 _law_program(_law_deal_here, _law_most); 0 _law_deal_here, 1 _law_most, 2 _law_many, 3 _law_tells, 4 _law_kinds, 5 _law_names_here, 6 _law_scene, 7 _law_rows, 8 _law_known, 9 _law_k -/
def l_program_293e : Fd := ⟨2, 10, (.seq (.set (.nm 2) (.bin .Add (.int 1) (.call 1022 (.cons (.var 0) (.cons (.int 3) .nil)))))
  (.seq (.set (.nm 3) (.bin .Add (.int 1) (.call 1022 (.cons (.var 0) (.cons (.int 4) .nil)))))
  (.seq (.set (.nm 4) (.call 1062 (.cons (.var 0) (.cons (.int 9) .nil))))
  (.seq (.set (.nm 5) (.slc false true (.idx (.lst (.cons (.var 4) (.cons (.call 1062 (.cons (.var 0) (.cons (.int 6) .nil))) .nil))) (.call 1022 (.cons (.var 0) (.cons (.int 2) .nil)))) .nil (.int 6)))
  (.seq (.set (.nm 6) (.dic [.inr "many", .inr "names", .inr "left"] (.cons (.var 2) (.cons (.var 5) (.cons (.bin .Sub (.var 1) (.var 3)) .nil)))))
  (.seq (.set (.tp [7, 8]) (.call 1012 (.cons (.var 0) (.cons (.var 6) (.cons (.lst .nil) (.cons (.var 3) (.cons (.int 0) .nil)))))))
  (.seq (.ret (.tup (.cons (.blt .tuple (.cons (.lc .rng1 (.cons (.var 2) .nil) [9] (.nm 9) false (.mth .popAt (.var 4) (.cons (.call 1022 (.cons (.var 0) (.cons (.blt .len (.cons (.var 4) .nil)) .nil))) .nil)) .nil) .nil)) (.cons (.var 7) .nil))))
  .skip)))))))⟩
/- 1004 _law_all(_law_rows); 0 _law_rows, 1 _law_found, 2 _law_left, 3 _law_row -/
def l_all_3004 : Fd := ⟨1, 4, (.seq (.set (.nm 1) (.lst .nil))
  (.seq (.set (.nm 2) (.lrv (.var 0)))
  (.seq (.while (.cmp .Gt (.blt .len (.cons (.var 2) .nil)) (.int 0))
  (.seq (.set (.nm 3) (.mth .pop (.var 2) .nil))
  (.seq (.expr (.mth .append (.var 1) (.cons (.var 3) .nil)))
  (.seq (.ite (.cmp .Eq (.idx (.var 3) (.int 0)) (.str "when"))
  (.seq (.expr (.mth .extend (.var 2) (.cons (.lrv (.bin .Add (.idx (.var 3) (.int 2)) (.idx (.var 3) (.int 3)))) .nil)))
  .skip)
  .skip)
  (.seq (.ite (.cmp .Eq (.idx (.var 3) (.int 0)) (.str "times"))
  (.seq (.expr (.mth .extend (.var 2) (.cons (.lrv (.idx (.var 3) (.int 2))) .nil)))
  .skip)
  .skip)
  .skip)))))
  (.seq (.ret (.var 1))
  .skip))))⟩
/- 1136 _law_value(_law_term_here, _law_values); 0 _law_term_here, 1 _law_values, 2 _law_one, 3 _law_other, 4 _law_found -/
def l_value_a345 : Fd := ⟨2, 5, (.seq (.ite (.cmp .Eq (.idx (.var 0) (.int 0)) (.str "num"))
  (.seq (.ret (.idx (.var 0) (.int 1)))
  .skip)
  .skip)
  (.seq (.ite (.cmp .Eq (.idx (.var 0) (.int 0)) (.str "name"))
  (.seq (.ret (.idx (.var 1) (.idx (.var 0) (.int 1))))
  .skip)
  .skip)
  (.seq (.set (.nm 2) (.call 1136 (.cons (.idx (.var 0) (.int 2)) (.cons (.var 1) .nil))))
  (.seq (.set (.nm 3) (.call 1136 (.cons (.idx (.var 0) (.int 3)) (.cons (.var 1) .nil))))
  (.seq (.ite (.cmp .Eq (.idx (.var 0) (.int 1)) (.str "<"))
  (.seq (.ret (.idx (.lst (.cons (.int 0) (.cons (.int 1) .nil))) (.blt .int (.cons (.cmp .Lt (.var 2) (.var 3)) .nil))))
  .skip)
  .skip)
  (.seq (.ite (.cmp .Eq (.idx (.var 0) (.int 1)) (.str "="))
  (.seq (.ret (.idx (.lst (.cons (.int 0) (.cons (.int 1) .nil))) (.blt .int (.cons (.cmp .Eq (.var 2) (.var 3)) .nil))))
  .skip)
  .skip)
  (.seq (.set (.nm 4) (.idx (.lst (.cons (.bin .Add (.var 2) (.var 3)) (.cons (.bin .Sub (.var 2) (.var 3)) (.cons (.bin .Mult (.var 2) (.var 3)) .nil)))) (.mth .sindex (.str "+-*") (.cons (.idx (.var 0) (.int 1)) .nil))))
  (.seq (.while (.cmp .Lt (.var 4) (.int 0))
  (.seq (.set (.nm 4) (.bin .Add (.var 4) (.int 1000000)))
  .skip))
  (.seq (.ret (.bin .Mod (.var 4) (.int 1000000)))
  .skip)))))))))⟩
/- 1068 _law_numbers(_law_deal_here, _law_names_here); 0 _law_deal_here, 1 _law_names_here, 2 _law_name -/
def l_numbers_c792 : Fd := ⟨2, 3, (.seq (.ret (.blt .dict (.cons (.lc .all (.var 1) [2] (.nm 2) false (.tup (.cons (.var 2) (.cons (.call 1022 (.cons (.var 0) (.cons (.idx (.lst (.cons (.int 2) (.cons (.int 10) (.cons (.int 1000000) .nil)))) (.call 1022 (.cons (.var 0) (.cons (.int 3) .nil)))) .nil))) .nil))) .nil) .nil)))
  .skip)⟩
/- 1103 _law_rows_right(_law_program_here); 0 _law_program_here, 1 _law_due, 2 _law_throws, 3 _law_found, 4 _law_some, 5 _law_row -/
def l_rows_right_d650 : Fd := ⟨1, 6, (.seq (.set (.nm 1) (.call 1004 (.cons (.idx (.var 0) (.int 1)) .nil)))
  (.seq (.set (.nm 2) (.lc .all (.var 1) [5] (.nm 5) true (.var 5) (.cmp .In (.idx (.var 5) (.int 0)) (.tup (.cons (.str "ladder") (.cons (.str "flat") (.cons (.str "choose") (.cons (.str "first") .nil))))))))
  (.seq (.set (.nm 3) (.call 84 (.cons (.var 0) .nil)))
  (.seq (.set (.nm 4) (.call 85 (.cons (.var 0) .nil)))
  (.seq (.ite (.or (.cons (.not (.isi (.var 3) [.b .list])) (.cons (.not (.isi (.var 4) [.b .list])) (.cons (.cmp .NotEq (.var 3) (.var 1)) (.cons (.cmp .NotEq (.var 4) (.var 2)) .nil)))))
  (.seq (.ret (.bl false))
  .skip)
  .skip)
  (.seq (.expr (.mth .append (.var 3) (.cons (.tup (.cons (.str "tell") (.cons (.tup (.cons (.str "num") (.cons (.int 1) .nil))) .nil))) .nil)))
  (.seq (.expr (.mth .reverse (.var 4) .nil))
  (.seq (.expr (.mth .append (.var 4) (.cons .non .nil)))
  (.seq (.ret (.bl true))
  .skip)))))))))⟩
/- 1137 _law_value_right(_law_term_here, _law_values); 0 _law_term_here, 1 _law_values, 2 _law_kept, 3 _law_found -/
def l_value_right_0b02 : Fd := ⟨2, 4, (.seq (.set (.nm 2) (.blt .dict (.cons (.var 1) .nil)))
  (.seq (.set (.nm 3) (.call 86 (.cons (.var 0) (.cons (.var 1) .nil))))
  (.seq (.ite (.or (.cons (.not (.isi (.var 3) [.b .int])) (.cons (.isi (.var 3) [.b .bool]) (.cons (.cmp .NotEq (.var 3) (.call 1136 (.cons (.var 0) (.cons (.var 1) .nil)))) .nil))))
  (.seq (.ret (.bl false))
  .skip)
  .skip)
  (.seq (.ret (.cmp .Eq (.var 1) (.var 2)))
  .skip))))⟩
/- 1144 law(_law_script); 0 _law_script, 1 _law_deal_here, 2 _law_one, 3 _law_other, 4 _law_names_here, 5 _law_term_here, 6 _law_first, 7 _law_second, 8 _law_program_here -/
def f_law_a07e : Fd := ⟨1, 9, (.seq (.set (.nm 1) (.call 1020 (.cons (.var 0) (.cons (.int 0) .nil))))
  (.seq (.set (.nm 2) (.call 1089 (.cons (.var 1) (.cons (.int 12) .nil))))
  (.seq (.set (.nm 3) (.call 1089 (.cons (.var 1) (.cons (.int 12) .nil))))
  (.seq (.set (.nm 4) (.call 1062 (.cons (.var 1) (.cons (.int 6) .nil))))
  (.seq (.set (.nm 5) (.call 1124 (.cons (.var 1) (.cons (.slc false true (.var 4) .nil (.bin .Add (.int 1) (.call 1022 (.cons (.var 1) (.cons (.int 4) .nil))))) (.cons (.int 12) (.cons (.int 6) .nil))))))
  (.seq (.set (.nm 6) (.call 1068 (.cons (.var 1) (.cons (.var 4) .nil))))
  (.seq (.set (.nm 7) (.call 1068 (.cons (.var 1) (.cons (.rvs (.var 4)) .nil))))
  (.seq (.for .all (.tup (.cons (.var 2) (.cons (.var 3) (.cons (.var 2) .nil)))) (.nm 8)
  (.seq (.ite (.not (.call 1103 (.cons (.var 8) .nil)))
  (.seq (.ret (.bl false))
  .skip)
  .skip)
  .skip))
  (.seq (.ret (.and (.cons (.call 1137 (.cons (.var 5) (.cons (.var 6) .nil))) (.cons (.call 1137 (.cons (.var 5) (.cons (.var 7) .nil))) (.cons (.call 1137 (.cons (.var 5) (.cons (.var 6) .nil))) .nil)))))
  .skip)))))))))⟩
end DL

set_option Elab.async false
set_option linter.all false
set_option maxRecDepth 100000
/-! FD17: the lowered defs of law k17 that k19 has not, printed by gen.py -d -x FD19.lean -/
namespace DL
open PySem PySem.Spec PyProof.Rows L2
/- 45 names_in(term); 0 term -/
def f_names_in_ed56 : Fd := ⟨1, 1, (.seq (.ite (.cmp .Eq (.idx (.var 0) (.int 0)) (.str "name"))
  (.seq (.ret (.lst (.cons (.idx (.var 0) (.int 1)) .nil)))
  .skip)
  .skip)
  (.seq (.ite (.cmp .Eq (.idx (.var 0) (.int 0)) (.str "op"))
  (.seq (.ret (.bin .Add (.call 45 (.cons (.idx (.var 0) (.int 2)) .nil)) (.call 45 (.cons (.idx (.var 0) (.int 3)) .nil))))
  .skip)
  .skip)
  (.seq (.ret (.lst .nil))
  .skip)))⟩
/- 46 names_asked(row); 0 row -/
def f_names_asked_dfaa : Fd := ⟨1, 1, (.seq (.ite (.cmp .Eq (.idx (.var 0) (.int 0)) (.str "let"))
  (.seq (.ret (.call 45 (.cons (.idx (.var 0) (.int 2)) .nil)))
  .skip)
  .skip)
  (.seq (.ite (.or (.cons (.cmp .Eq (.idx (.var 0) (.int 0)) (.str "tell")) (.cons (.cmp .Eq (.idx (.var 0) (.int 0)) (.str "when")) .nil)))
  (.seq (.ret (.call 45 (.cons (.idx (.var 0) (.int 1)) .nil)))
  .skip)
  .skip)
  (.seq (.ret (.lst .nil))
  .skip)))⟩
/- 47 is_out_of_range(row); 0 row, 1 word, 2 x, 3 mark, 4 a, 5 b, 6 sums, 7 low, 8 high -/
def f_is_out_of_range_1093 : Fd := ⟨1, 9, (.seq (.ite (.cmp .Eq (.idx (.var 0) (.int 0)) (.str "first"))
  (.seq (.set (.tp [1, 2, 3, 4, 5, 6, 7, 8]) (.var 0))
  (.seq (.ret (.or (.cons (.cmp .LtE (.var 8) (.var 7)) (.cons (.not (.chn .LtE .LtE (.var 7) (.var 3) (.var 8))) (.cons (.cmp .Gt (.bin .Mult (.int 2) (.idx (.var 5) (.int 0))) (.idx (.var 5) (.int 1))) .nil)))))
  .skip))
  .skip)
  (.seq (.ret (.and (.cons (.cmp .In (.idx (.var 0) (.int 0)) (.tup (.cons (.str "ladder") (.cons (.str "flat") (.cons (.str "choose") .nil))))) (.cons (.cmp .Gt (.idx (.var 0) (.int 4)) (.idx (.var 0) (.int 5))) .nil))))
  .skip))⟩
/- 48 tells_in(rows); 0 rows, 1 many, 2 row -/
def f_tells_in_6c45 : Fd := ⟨1, 3, (.seq (.set (.nm 1) (.int 0))
  (.seq (.for .all (.var 0) (.nm 2)
  (.seq (.ite (.cmp .Eq (.idx (.var 2) (.int 0)) (.str "tell"))
  (.seq (.set (.nm 1) (.bin .Add (.var 1) (.int 1)))
  .skip)
  (.seq (.ite (.cmp .Eq (.idx (.var 2) (.int 0)) (.str "when"))
  (.seq (.set (.nm 1) (.bin .Add (.var 1) (.call 48 (.cons (.idx (.var 2) (.int 2)) .nil))))
  .skip)
  (.seq (.ite (.cmp .Eq (.idx (.var 2) (.int 0)) (.str "times"))
  (.seq (.set (.nm 1) (.bin .Add (.var 1) (.bin .Mult (.idx (.var 2) (.int 1)) (.call 48 (.cons (.idx (.var 2) (.int 2)) .nil)))))
  .skip)
  .skip)
  .skip))
  .skip))
  .skip))
  (.seq (.ret (.var 1))
  .skip)))⟩
/- 49 amiss(row, known); 0 row, 1 known, 2 x -/
def f_amiss_26b4 : Fd := ⟨2, 3, (.seq (.ite (.call 47 (.cons (.var 0) .nil))
  (.seq (.ret (.str "range"))
  .skip)
  .skip)
  (.seq (.ite (.not (.blt .all (.cons (.lc .all (.call 46 (.cons (.var 0) .nil)) [2] (.nm 2) false (.cmp .In (.var 2) (.var 1)) .nil) .nil)))
  (.seq (.ret (.str "unknown"))
  .skip)
  .skip)
  (.seq (.ite (.and (.cons (.cmp .Eq (.idx (.var 0) (.int 0)) (.str "when")) (.cons (.cmp .NotEq (.call 48 (.cons (.idx (.var 0) (.int 2)) .nil)) (.call 48 (.cons (.idx (.var 0) (.int 3)) .nil))) .nil)))
  (.seq (.ret (.str "tells"))
  .skip)
  .skip)
  (.seq (.ret .non)
  .skip))))⟩
/- 50 look_rows(rows, at, known); 0 rows, 1 at, 2 known, 3 row, 4 word -/
def f_look_rows_1b34 : Fd := ⟨3, 5, (.seq (.for .all (.var 0) (.nm 3)
  (.seq (.set (.nm 4) (.call 49 (.cons (.var 3) (.cons (.var 2) .nil))))
  (.seq (.ite (.cmp .IsNot (.var 4) .non)
  (.seq .never
  .skip)
  .skip)
  (.seq (.set (.tp [1, 2]) (.call 51 (.cons (.var 3) (.cons (.bin .Add (.var 1) (.int 1)) (.cons (.var 2) .nil)))))
  .skip))))
  (.seq (.ret (.tup (.cons (.var 1) (.cons (.var 2) .nil))))
  .skip))⟩
/- 51 look_behind(row, at, known); 0 row, 1 at, 2 known, 3 some, 4 block, 5 names, 6 x -/
def f_look_behind_0449 : Fd := ⟨3, 7, (.seq (.set (.nm 3) (.lst .nil))
  (.seq (.for .all (.call 82 (.cons (.var 0) .nil)) (.nm 4)
  (.seq (.set (.tp [1, 5]) (.call 50 (.cons (.var 4) (.cons (.var 1) (.cons (.var 2) .nil)))))
  (.seq (.expr (.mth .append (.var 3) (.cons (.var 5) .nil)))
  .skip)))
  (.seq (.ite (.cmp .Eq (.idx (.var 0) (.int 0)) (.str "when"))
  (.seq (.ret (.tup (.cons (.var 1) (.cons (.lc .all (.idx (.var 3) (.int 0)) [6] (.nm 6) true (.var 6) (.cmp .In (.var 6) (.idx (.var 3) (.int 1)))) .nil))))
  .skip)
  .skip)
  (.seq (.ite (.cmp .Eq (.idx (.var 0) (.int 0)) (.str "times"))
  (.seq (.ret (.tup (.cons (.var 1) (.cons (.idx (.var 3) (.int 0)) .nil))))
  .skip)
  .skip)
  (.seq (.ite (.cmp .Eq (.idx (.var 0) (.int 0)) (.str "tell"))
  (.seq (.ret (.tup (.cons (.var 1) (.cons (.var 2) .nil))))
  .skip)
  .skip)
  (.seq (.ret (.tup (.cons (.var 1) (.cons (.bin .Add (.var 2) (.lst (.cons (.idx (.var 0) (.int 1)) .nil))) .nil))))
  .skip))))))⟩
/- 52 look(program); 0 program, 1 kinds, 2 rows, 3 row -/
def f_look_f18e : Fd := ⟨1, 4, (.seq (.set (.tp [1, 2]) (.var 0))
  (.seq (.ite (.or (.cons (.cmp .Lt (.blt .len (.cons (.var 1) .nil)) (.int 1)) (.cons (.cmp .Gt (.blt .len (.cons (.var 1) .nil)) (.glo "MOST_KINDS")) .nil)))
  (.seq .never
  .skip)
  .skip)
  (.seq (.ite (.cmp .Lt (.lset (.var 1)) (.blt .len (.cons (.var 1) .nil)))
  (.seq .never
  .skip)
  .skip)
  (.seq (.expr (.call 50 (.cons (.var 2) (.cons (.int 0) (.cons (.lst .nil) .nil)))))
  (.seq (.ite (.cmp .NotIn (.str "tell") (.lc .all (.call 84 (.cons (.var 0) .nil)) [3] (.nm 3) false (.idx (.var 3) (.int 0)) .nil))
  (.seq .never
  .skip)
  .skip)
  (.seq (.ret (.bl true))
  .skip))))))⟩
/- 1003 _law_alike(_law_deal_here, _law_program_here); 0 _law_deal_here, 1 _law_program_here, 2 _law_kinds, 3 _law_rows, 4 _law_more, 5 _law_found, 6 _law_called, 7 _law_row -/
def l_alike_ea0c : Fd := ⟨2, 8, (.seq (.set (.tp [2, 3]) (.var 1))
  (.seq (.set (.nm 4) (.call 1127 (.cons (.var 0) (.cons (.blt .len (.cons (.var 2) .nil)) (.cons (.str "zzzzzzzz") .nil)))))
  (.seq (.set (.nm 5) (.lst (.cons (.var 1) (.cons (.tup (.cons (.var 2) (.cons (.bin .Add (.tup (.cons (.var 4) .nil)) (.var 3)) .nil))) (.cons (.tup (.cons (.var 2) (.cons (.bin .Add (.var 3) (.tup (.cons (.var 4) (.cons (.tup (.cons (.str "tell") (.cons (.tup (.cons (.str "name") (.cons (.str "zzzzzzzz") .nil))) .nil))) .nil)))) .nil))) .nil)))))
  (.seq (.set (.nm 6) (.slc false true (.call 1062 (.cons (.var 0) (.cons (.int 3) .nil))) .nil (.blt .len (.cons (.var 2) .nil))))
  (.seq (.expr (.mth .append (.var 5) (.cons (.tup (.cons (.blt .tuple (.cons (.var 6) .nil)) (.cons (.bin .Add (.tup (.cons (.tup (.cons (.str "let") (.cons (.idx (.var 6) (.int 0)) (.cons (.tup (.cons (.str "num") (.cons (.int 0) .nil))) .nil)))) .nil)) (.var 3)) .nil))) .nil)))
  (.seq (.ite (.and (.cons (.cmp .Gt (.blt .len (.cons (.var 3) .nil)) (.int 0)) (.cons (.blt .all (.cons (.lc .all (.var 3) [7] (.nm 7) false (.cmp .NotIn (.idx (.var 7) (.int 0)) (.tup (.cons (.str "when") (.cons (.str "times") .nil)))) .nil) .nil)) .nil)))
  (.seq (.expr (.mth .append (.var 5) (.cons (.tup (.cons (.var 2) (.cons (.tup (.cons (.tup (.cons (.str "times") (.cons (.bin .Add (.int 1) (.call 1022 (.cons (.var 0) (.cons (.int 3) .nil)))) (.cons (.var 3) .nil)))) .nil)) .nil))) .nil)))
  (.seq (.ite (.cmp .Lt (.blt .len (.cons (.var 3) .nil)) (.int 6))
  (.seq (.expr (.mth .append (.var 5) (.cons (.tup (.cons (.var 2) (.cons (.tup (.cons (.tup (.cons (.str "when") (.cons (.tup (.cons (.str "num") (.cons (.call 1022 (.cons (.var 0) (.cons (.int 2) .nil))) .nil))) (.cons (.var 3) (.cons (.var 3) .nil))))) .nil)) .nil))) .nil)))
  .skip)
  .skip)
  .skip))
  .skip)
  (.seq (.ret (.var 5))
  .skip)))))))⟩
/- 1144 law(_law_script); 0 _law_script, 1 _law_asked, 2 _law_k, 3 _law_deal_here, 4 _law_program_here -/
def f_law_35d4 : Fd := ⟨1, 5, (.seq (.set (.nm 1) (.lst .nil))
  (.seq (.for .rng1 (.cons (.blt .max2 (.cons (.int 2) (.cons (.blt .len (.cons (.slc false true (.var 0) .nil (.int 4)) .nil)) .nil))) .nil) (.nm 2)
  (.seq (.set (.nm 3) (.call 1020 (.cons (.var 0) (.cons (.var 2) .nil))))
  (.seq (.set (.nm 1) (.bin .Add (.var 1) (.call 1003 (.cons (.var 3) (.cons (.call 1089 (.cons (.var 3) (.cons (.int 9) .nil))) .nil)))))
  .skip)))
  (.seq (.ret (.blt .all (.cons (.lc .all (.bin .Add (.var 1) (.slc false true (.var 1) .nil (.int 2))) [4] (.nm 4) false (.cmp .Is (.call 52 (.cons (.var 4) .nil)) (.bl true)) .nil) .nil)))
  .skip)))⟩
end DL

set_option Elab.async false
set_option linter.all false
set_option maxRecDepth 100000
/-! LA: what the drawing helpers of k17 to k19 tell -/
namespace DL
open PySem PySem.Spec PyProof.Rows L2

abbrev endsD (Q : QD) (X : XD) : DE := { nx := fun _ S' => Q .non S', rt := Q, ex := fun x _ S' => X x S' }
/-- a draw: some number below m -/
def DrawOk (Φ : Call) : Prop := ∀ (a l : Addr) (m : Int) (S : Sto) (Q : QD) (X : XD), Deal a l S → 0 < m → m < 2 ^ 62 → (∀ r S', 0 ≤ r → r < m → Deal a l S' → Keep [a, l] S S' → Q (.int r) S') → Φ 1022 [.ref a, .int m] S Q X
theorem draw_ok {G : GT} {Φ : Call} {a l : Addr} {m : Int} {S : Sto} {Q : QD} {X : XD} (h : Deal a l S) (hm : 0 < m) (hm2 : m < 2 ^ 62)
    (k : ∀ r S', 0 ≤ r → r < m → Deal a l S' → Keep [a, l] S S' → Q (.int r) S') : wc G Φ l_draw_ade5.body (endsD Q X) (startD 5 [.ref a, .int m]) S := by
  obtain ⟨ne, ⟨s0, n0, ea, hs0, hs1, hn0⟩, zs0, el, hz0⟩ := h
  have la : a ∈ [a, l] := List.mem_cons_self
  have ll : l ∈ [a, l] := List.mem_cons_of_mem _ List.mem_cons_self
  unfold l_draw_ade5
  show wc G Φ _ (endsD Q X) [some (D.ref a), some (D.int m), none, none, none] S
  refine wc_sq ?_; try simp only [DL.wcs, DL.wp, DL.ds, DL.dl, List.set, if_true, if_false, reduceCtorEq, Bool.false_eq_true, eq_self, DL.sz, true_and, DL.tp2, DL.prs, DL.isr, Bool.not_true, Bool.not_false]
  refine whi_inv (fun n ρ S' => ρ = [some (D.ref a), some (D.int m), none, none, none] ∧ ∃ (s nn : Int) (zs : List Int), S' a = some (.dk (dealK s nn l)) ∧ S' l = some (.lst (zs.map D.int)) ∧ 0 ≤ s ∧ s < 2 ^ 62 ∧ 0 ≤ nn ∧ (∀ z ∈ zs, 0 ≤ z) ∧ zs.length = n ∧ Keep [a, l] S S')
    (fun ρ S' => ρ = [some (D.ref a), some (D.int m), none, none, none] ∧ ∃ (s nn : Int) (zs : List Int), S' a = some (.dk (dealK s nn l)) ∧ S' l = some (.lst (zs.map D.int)) ∧ 0 ≤ s ∧ s < 2 ^ 62 ∧ 0 ≤ nn ∧ (∀ z ∈ zs, 0 ≤ z) ∧ Keep [a, l] S S')
    ⟨_, rfl, s0, n0, zs0, ea, el, hs0, hs1, hn0, hz0, rfl, Keep.refl⟩ ?_ ?_
  · rintro n ρ S1 N L ⟨rfl, s, nn, zs, e1, e2, hs, hs2, hnn, hzs, hlen, K⟩ hN hL
    try simp only [DL.wcs, DL.wp, DL.ds, DL.dl, List.set, if_true, if_false, reduceCtorEq, Bool.false_eq_true, eq_self, DL.sz, true_and, DL.tp2, DL.prs, DL.isr, Bool.not_true, Bool.not_false]
    refine idx_dk e1 rfl deal_number ?_
    try simp only [DL.wcs, DL.wp, DL.ds, DL.dl, List.set, if_true, if_false, reduceCtorEq, Bool.false_eq_true, eq_self, DL.sz, true_and, DL.tp2, DL.prs, DL.isr, Bool.not_true, Bool.not_false, decide_eq_true_eq]
    have out := hL _ S1 ⟨rfl, s, nn, zs, e1, e2, hs, hs2, hnn, hzs, K⟩
    by_cases h0 : nn = 0
    · rw [if_pos h0]
      refine idx_dk e1 rfl deal_left (len_lst e2 ?_)
      by_cases hl : (0 : Int) < ((zs.map D.int).length : Nat)
      · rw [if_pos hl]
        rw [List.length_map] at hl
        refine wc_sq ?_; try simp only [DL.wcs, DL.wp, DL.ds, DL.dl, List.set, if_true, if_false, reduceCtorEq, Bool.false_eq_true, eq_self, DL.sz, true_and, DL.tp2, DL.prs, DL.isr, Bool.not_true, Bool.not_false]
        refine idx_dk e1 rfl deal_left ?_
        refine ⟨⟨_, lstOf_of e2⟩, ?_⟩
        have hlt : zs.length - 1 < zs.length := by omega
        refine ⟨_, D.int zs[zs.length - 1], lstOf_of e2, by rw [List.length_map, List.getElem?_map, List.getElem?_eq_getElem hlt]; rfl, ?_⟩
        refine set_dk (by rw [su_ne ne]; exact e1) rfl deal_len ?_
        rw [deal_putN]
        refine hN (n - 1) _ _ (by omega) ⟨rfl, s, _, zs.dropLast, su_same, by rw [su_ne ne.symm, su_same, List.map_dropLast], hs, hs2, hzs _ (List.getElem_mem _), fun z hz => hzs z ((List.dropLast_sublist zs).subset hz), by rw [List.length_dropLast]; omega, (K.trans (Keep.at ll)).trans (Keep.at la)⟩
      · rw [if_neg hl]
        exact out
    · rw [if_neg h0]
      exact out
  · rintro ρ S1 ⟨rfl, s, nn, zs, e1, e2, hs, hs2, hnn, hzs, K⟩
    refine wc_sq ?_; try simp only [DL.wcs, DL.wp, DL.ds, DL.dl, List.set, if_true, if_false, reduceCtorEq, Bool.false_eq_true, eq_self, DL.sz, true_and, DL.tp2, DL.prs, DL.isr, Bool.not_true, Bool.not_false]
    refine idx_dk e1 rfl deal_number ?_
    refine wc_sq ?_; try simp only [DL.wcs, DL.wp, DL.ds, DL.dl, List.set, if_true, if_false, reduceCtorEq, Bool.false_eq_true, eq_self, DL.sz, true_and, DL.tp2, DL.prs, DL.isr, Bool.not_true, Bool.not_false, decide_eq_true_eq]
    by_cases h0 : 0 < nn
    · rw [if_pos h0]
      refine wc_sq ?_; try simp only [DL.wcs, DL.wp, DL.ds, DL.dl, List.set, if_true, if_false, reduceCtorEq, Bool.false_eq_true, eq_self, DL.sz, true_and, DL.tp2, DL.prs, DL.isr, Bool.not_true, Bool.not_false]
      have cd : CDivW nn m := ⟨hm, by
        have : m.natAbs < 2 ^ 62 := by omega
        exact Nat.lt_trans ((Nat.log2_lt (by omega)).mpr this) (by decide)⟩
      refine ⟨cd, set_dk e1 rfl deal_len ?_⟩
      rw [deal_putN]
      refine wc_sq ?_; try simp only [DL.wcs, DL.wp, DL.ds, DL.dl, List.set, if_true, if_false, reduceCtorEq, Bool.false_eq_true, eq_self, DL.sz, true_and, DL.tp2, DL.prs, DL.isr, Bool.not_true, Bool.not_false]
      exact ⟨hm, k _ _ (Int.emod_nonneg _ (by omega)) (Int.emod_lt_of_pos _ hm) ⟨ne, ⟨s, _, su_same, hs, hs2, Int.ediv_nonneg hnn (by omega)⟩, zs, by rw [su_ne ne.symm]; exact e2, hzs⟩ (K.trans (Keep.at la))⟩
    · rw [if_neg h0]
      refine wc_sq ?_; try simp only [DL.wcs, DL.wp, DL.ds, DL.dl, List.set, if_true, if_false, reduceCtorEq, Bool.false_eq_true, eq_self, DL.sz, true_and, DL.tp2, DL.prs, DL.isr, Bool.not_true, Bool.not_false]
      refine idx_dk e1 rfl deal_seed ?_
      try simp only [DL.wcs, DL.wp, DL.ds, DL.dl, List.set, if_true, if_false, reduceCtorEq, Bool.false_eq_true, eq_self, DL.sz, true_and, DL.tp2, DL.prs, DL.isr, Bool.not_true, Bool.not_false]
      refine ⟨.inl (.inr ⟨by decide, by decide⟩), by decide, ?_⟩
      refine wc_sq ?_; try simp only [DL.wcs, DL.wp, DL.ds, DL.dl, List.set, if_true, if_false, reduceCtorEq, Bool.false_eq_true, eq_self, DL.sz, true_and, DL.tp2, DL.prs, DL.isr, Bool.not_true, Bool.not_false]
      have b1 : 0 ≤ (s * 48271 + 7919) % 2147483647 := Int.emod_nonneg _ (by decide)
      have b2 : (s * 48271 + 7919) % 2147483647 < 2147483647 := Int.emod_lt_of_pos _ (by decide)
      generalize (s * 48271 + 7919) % 2147483647 = one at b1 b2
      refine ⟨.inl (.inr ⟨by decide, by decide⟩), by decide, set_dk e1 rfl deal_len ?_⟩
      rw [deal_putS]
      have b3 : 0 ≤ (one * 40692 + 104729) % 2147483399 := Int.emod_nonneg _ (by decide)
      have b4 : (one * 40692 + 104729) % 2147483399 < 2147483399 := Int.emod_lt_of_pos _ (by decide)
      generalize (one * 40692 + 104729) % 2147483399 = seed at b3 b4
      have e3 : su S1 a (.dk (dealK seed nn l)) a = some (.dk (dealK seed nn l)) := su_same
      refine wc_sq ?_; try simp only [DL.wcs, DL.wp, DL.ds, DL.dl, List.set, if_true, if_false, reduceCtorEq, Bool.false_eq_true, eq_self, DL.sz, true_and, DL.tp2, DL.prs, DL.isr, Bool.not_true, Bool.not_false]
      refine idx_dk e3 rfl deal_seed (idx_dk e3 rfl deal_seed ?_)
      try simp only [DL.wcs, DL.wp, DL.ds, DL.dl, List.set, if_true, if_false, reduceCtorEq, Bool.false_eq_true, eq_self, DL.sz, true_and, DL.tp2, DL.prs, DL.isr, Bool.not_true, Bool.not_false]
      refine ⟨.inl (.inl ⟨by omega, by omega⟩), by decide, ?_⟩
      refine wc_sq ?_; try simp only [DL.wcs, DL.wp, DL.ds, DL.dl, List.set, if_true, if_false, reduceCtorEq, Bool.false_eq_true, eq_self, DL.sz, true_and, DL.tp2, DL.prs, DL.isr, Bool.not_true, Bool.not_false]
      refine ⟨.inl (.inl ⟨by omega, by omega⟩), by decide, .inl (.inr ⟨by decide, by decide⟩), hm, ?_⟩
      exact k _ _ (Int.emod_nonneg _ (by omega)) (Int.emod_lt_of_pos _ hm) ⟨ne, ⟨_, nn, e3, b3, by omega, hnn⟩, zs, by rw [su_ne ne.symm]; exact e2, hzs⟩ (K.trans (Keep.at la))
/-! ### data -/
inductive Tm where
  | num (i : Int) | name (x : Str) | op (c : Nat) (a b : Tm)
def Tm.d : Tm → D
  | .num i => .tup [.str "num", .int i]
  | .name x => .tup [.str "name", .str x]
  | .op c a b => .tup [.str "op", .str ⟨#[c]⟩, a.d, b.d]
def Tm.deep : Tm → Nat
  | .op _ a b => 1 + max a.deep b.deep
  | _ => 1
def Tm.names : Tm → List Str
  | .num _ => []
  | .name x => [x]
  | .op _ a b => a.names ++ b.names
def Tm.Good : Tm → Prop
  | .num i => 0 ≤ i ∧ i < 1000
  | .name _ => True
  | .op c a b => c ∈ [43, 45, 42, 60, 61] ∧ a.Good ∧ b.Good
inductive Th where
  | ladder (s : List Int) (st : Int × Int) (lo hi : Int)
  | flat (s : List Int) (z lo hi : Int)
  | choose (ss : List (List Int)) (st : Int × Int) (lo hi : Int)
  | first (mk : Int) (st st2 : Int × Int) (ss : List (List Int)) (lo hi : Int)
def sumD (s : List Int) : D := .tup (s.map D.int)
def sumsD (ss : List (List Int)) : D := .tup (ss.map sumD)
def frD (p : Int × Int) : D := .tup [.int p.1, .int p.2]
def Th.d (x : Str) : Th → D
  | .ladder s st lo hi => .tup [.str "ladder", .str x, sumD s, frD st, .int lo, .int hi]
  | .flat s z lo hi => .tup [.str "flat", .str x, sumD s, .int z, .int lo, .int hi]
  | .choose ss st lo hi => .tup [.str "choose", .str x, sumsD ss, frD st, .int lo, .int hi]
  | .first mk st st2 ss lo hi => .tup [.str "first", .str x, .int mk, frD st, frD st2, sumsD ss, .int lo, .int hi]
def SumOk (m : Int) (s : List Int) : Prop := s.length = m.toNat ∧ ∀ z ∈ s, 0 ≤ z ∧ z < 4
def steeps2 : List (Int × Int) := [(1, 2), (1, 3), (1, 4), (1, 5), (2, 5), (1, 6), (1, 7), (2, 7), (3, 7), (1, 8), (3, 8), (1, 9), (2, 9), (4, 9)]
def steeps1 : List (Int × Int) := steeps2 ++ [(2, 3), (3, 4), (3, 5), (4, 5), (5, 6), (4, 7), (5, 7), (6, 7), (5, 8), (7, 8), (5, 9), (7, 9), (8, 9)]
def EndsOk (lo hi : Int) : Prop := 0 ≤ lo ∧ lo ≤ hi ∧ hi ≤ 9
def Th.Ok (m : Int) : Th → Prop
  | .ladder s st lo hi => SumOk m s ∧ st ∈ steeps1 ∧ EndsOk lo hi
  | .flat s z lo hi => SumOk m s ∧ 0 ≤ z ∧ z < 5 ∧ EndsOk lo hi
  | .choose ss st lo hi => (0 < ss.length ∧ ss.length ≤ 4 ∧ ∀ s ∈ ss, SumOk m s) ∧ st ∈ steeps1 ∧ EndsOk lo hi
  | .first mk st st2 ss lo hi => (0 < ss.length ∧ ss.length ≤ 4 ∧ ∀ s ∈ ss, SumOk m s) ∧ st ∈ steeps1 ∧ st2 ∈ steeps2 ∧ EndsOk lo hi ∧ lo < hi ∧ lo ≤ mk ∧ mk ≤ hi

/-! ### the helpers -/
theorem su_keep2 {a l p : Addr} {S S' : Sto} {o : Ob} (h : Keep [a, l] S S') (hp : S' p = none) : Keep [a, l] S (su S' p o) := h.trans (Keep.new hp)
theorem Deal.nea {a l p : Addr} {S : Sto} (h : Deal a l S) (hp : S p = none) : a ≠ p ∧ l ≠ p := by
  obtain ⟨_, ⟨s, n, e, _⟩, zs, e2, _⟩ := h
  exact ⟨sne e hp, sne e2 hp⟩
theorem Deal.new {a l p : Addr} {S : Sto} {o : Ob} (h : Deal a l S) (hp : S p = none) : Deal a l (su S p o) := h.keep (M := []) (Keep.new hp) (by simp) (by simp)
theorem Keep.none_of {M : List Addr} {S S' : Sto} (h : Keep M S S') {p : Addr} (hp : S' p = none) (hm : p ∉ M) : S p = none := by
  cases e : S p with
  | none => rfl
  | some o => rw [h p o hm e] at hp; cases hp
theorem pick_ok {Φ : Call} (hd : DrawOk Φ) {a l : Addr} {S : Sto} {xs : List D} {n : Int} {K : QD} {X : XD} (h : Deal a l S) (hn : n = (xs.length : Int)) (h0 : 0 < n) (h1 : n < 2 ^ 62)
    (k : ∀ v S', v ∈ xs → Deal a l S' → Keep [a, l] S S' → K v S') : newL xs S fun d S1 => Φ 1022 [.ref a, .int n] S1 (fun e S2 => idxD d e S2 K) X := fun q hq => by
  have nq := h.nea hq
  refine hd a l n _ _ _ (h.new hq) h0 h1 fun r S2 r0 r1 D2 K2 => ?_
  obtain ⟨v, hv, e⟩ := atI_lt (xs := xs) r0 (by rw [← hn]; exact r1)
  have hm : q ∉ [a, l] := by
    intro hm
    rcases List.mem_cons.mp hm with e | hm
    · exact nq.1 e.symm
    · exact nq.2 (List.mem_singleton.mp hm).symm
  exact idx_lst (K2 _ _ hm su_same) e (k v S2 hv D2 ((Keep.new hq).trans K2))
theorem nin2 {a l q : Addr} (h : a ≠ q ∧ l ≠ q) : q ∉ [a, l] := by
  intro hm
  rcases List.mem_cons.mp hm with e | hm
  · exact h.1 e.symm
  · exact h.2 (List.mem_singleton.mp hm).symm
def SumFn (Φ : Call) : Prop := ∀ (a l : Addr) (m : Int) (S : Sto) (Q : QD) (X : XD), Deal a l S → 0 ≤ m → m ≤ 9 → (∀ s S', SumOk m s → Deal a l S' → Keep [a, l] S S' → Q (sumD s) S') → Φ 1117 [.ref a, .int m] S Q X
theorem sum_ok {G : GT} {Φ : Call} (hd : DrawOk Φ) {a l : Addr} {m : Int} {S : Sto} {Q : QD} {X : XD} (h : Deal a l S) (hm : 0 ≤ m) (hm2 : m ≤ 9)
    (k : ∀ s S', SumOk m s → Deal a l S' → Keep [a, l] S S' → Q (sumD s) S') : wc G Φ l_sum_f287.body (endsD Q X) (startD 3 [.ref a, .int m]) S := by
  unfold l_sum_f287
  show wc G Φ _ (endsD Q X) [some (D.ref a), some (D.int m), none] S
  refine wc_sq ?_; try simp only [DL.wcs, DL.wp, DL.ds, DL.dl, List.set, if_true, if_false, reduceCtorEq, Bool.false_eq_true, eq_self, DL.sz, true_and, DL.tp2, DL.prs, DL.isr, Bool.not_true, Bool.not_false]
  refine ⟨by omega, by omega, fun p hp => ?_⟩
  refine lc_inv (fun i acc S1 => Deal a l S1 ∧ Keep [a, l] S S1 ∧ S1 p = some (.lst acc) ∧ ∃ s : List Int, acc = s.map D.int ∧ s.length = i ∧ ∀ z ∈ s, 0 ≤ z ∧ z < 4)
    ⟨h.new hp, Keep.new hp, su_same, [], rfl, rfl, fun _ h => nomatch h⟩ (fun _ _ _ _ => trivial) ?_ ?_
  · rintro i x acc S1 N hx ⟨D1, K1, e1, s, rfl, hs, hz⟩ hN
    have hi : i < m.toNat := by
      have := (List.getElem?_eq_some_iff.mp hx).1
      simpa using this
    have np := h.nea hp
    try simp only [DL.wcs, DL.wp, DL.ds, DL.dl, List.set, if_true, if_false, reduceCtorEq, Bool.false_eq_true, eq_self, DL.sz, true_and, DL.tp2, DL.prs, DL.isr, Bool.not_true, Bool.not_false]
    refine pick_ok hd D1 rfl (by decide) (by decide) fun v S2 hv D2 K2 => ?_
    obtain ⟨m2, rfl, hm2, hm3⟩ : ∃ m2 : Int, v = .int m2 ∧ 0 < m2 ∧ m2 ≤ 4 := by
      simp only [List.mem_cons, List.not_mem_nil, or_false] at hv
      rcases hv with rfl | rfl | rfl
      · exact ⟨2, rfl, by decide, by decide⟩
      · exact ⟨2, rfl, by decide, by decide⟩
      · exact ⟨4, rfl, by decide, by decide⟩
    refine hd a l m2 _ _ _ D2 hm2 (by omega) fun r S3 r0 r1 D3 K3 => ?_
    have e3 : S3 p = some (.lst (s.map D.int)) := K3 _ _ (nin2 np) (K2 _ _ (nin2 np) e1)
    refine ⟨_, lstOf_of e3, by rw [List.length_map, hs]; have : (9 : Nat) < sizeLine := by decide
                               omega, hN (s.map D.int ++ [.int r]) _ ⟨D3.keep (M := [p]) (Keep.at List.mem_cons_self) (by simpa using np.1) (by simpa using np.2), ?_, su_same, s ++ [r], by simp, by simp [hs], ?_⟩⟩
    · intro b o hb e
      have hbp : b ≠ p := fun x => by rw [x, hp] at e; cases e
      rw [su_ne hbp]
      exact K3 _ _ hb (K2 _ _ hb (K1 _ _ hb e))
    · intro z hz'
      rcases List.mem_append.mp hz' with hz' | hz'
      · exact hz z hz'
      · rw [List.mem_singleton.mp hz']
        exact ⟨r0, by omega⟩
  · rintro acc S1 ⟨D1, K1, e1, s, rfl, hs, hz⟩
    refine ⟨_, seqD_of e1, k s S1 ⟨by simpa using hs, hz⟩ D1 K1⟩
theorem keep_acc {M : List Addr} {S S1 S3 : Sto} {p : Addr} {o : Ob} (K1 : Keep M S S1) (hp : S p = none) (K : Keep M S1 S3) : Keep M S (su S3 p o) := fun b u hb e => by
  have hbp : b ≠ p := fun x => by rw [x, hp] at e; cases e
  rw [su_ne hbp]
  exact K _ _ hb (K1 _ _ hb e)
theorem Deal.acc {a l p : Addr} {S : Sto} {o : Ob} (h : Deal a l S) (np : a ≠ p ∧ l ≠ p) : Deal a l (su S p o) := h.keep (M := [p]) (Keep.at List.mem_cons_self) (by simpa using np.1) (by simpa using np.2)
theorem Keep.none_su {M : List Addr} {S S' : Sto} (h : Keep M S S') {p q : Addr} {o : Ob} (hp : su S' q o p = none) (hm : p ∉ M) : S p = none := by
  refine h.none_of ?_ hm
  by_cases e : p = q
  · subst e; rw [su_same] at hp; cases hp
  · rw [su_ne e] at hp; exact hp
/-- a list's draw: ls[draw(len(ls))] -/
theorem draw_in {Φ : Call} (hd : DrawOk Φ) {a l q : Addr} {S : Sto} {xs : List D} {K : QD} {X : XD} (h : Deal a l S) (e : S q = some (.lst xs)) (hm : q ∉ [a, l]) (h0 : 0 < xs.length) (h1 : xs.length < 2 ^ 62)
    (k : ∀ v S', v ∈ xs → Deal a l S' → Keep [a, l] S S' → K v S') : Φ 1022 [.ref a, .int (xs.length : Nat)] S (fun e S2 => idxD (.ref q) e S2 K) X := by
  refine hd a l _ _ _ _ h (by omega) (by omega) fun r S2 r0 r1 D2 K2 => ?_
  obtain ⟨v, hv, e2⟩ := atI_lt (xs := xs) r0 r1
  exact idx_lst (K2 _ _ hm e) e2 (k v S2 hv D2 K2)
def SteepFn (Φ : Call) : Prop := ∀ (a l : Addr) (m : Int) (S : Sto) (Q : QD) (X : XD), Deal a l S → (∀ st S', st ∈ (if m = 1 then steeps1 else steeps2) → Deal a l S' → Keep [a, l] S S' → Q (frD st) S') → Φ 1115 [.ref a, .int m] S Q X
theorem steep_ok {G : GT} {Φ : Call} (hd : DrawOk Φ) {a l : Addr} {m : Int} {S : Sto} {Q : QD} {X : XD} (h : Deal a l S)
    (k : ∀ st S', st ∈ (if m = 1 then steeps1 else steeps2) → Deal a l S' → Keep [a, l] S S' → Q (frD st) S') : wc G Φ l_steep_3265.body (endsD Q X) (startD 3 [.ref a, .int m]) S := by
  unfold l_steep_3265
  show wc G Φ _ (endsD Q X) [some (D.ref a), some (D.int m), none] S
  refine wc_sq ?_; try simp only [DL.wcs, DL.wp, DL.ds, DL.dl, List.set, if_true, if_false, reduceCtorEq, Bool.false_eq_true, eq_self, DL.sz, true_and, DL.tp2, DL.prs, DL.isr, Bool.not_true, Bool.not_false]
  intro p hp
  have np := h.nea hp
  have D1 := h.new (o := .lst (steeps2.dropLast.map frD)) hp
  have K1 : Keep [a, l] S _ := Keep.new (o := .lst (steeps2.dropLast.map frD)) hp
  have e1 : su S p (.lst (steeps2.dropLast.map frD)) p = some (.lst (steeps2.dropLast.map frD)) := su_same
  change wc G Φ _ _ _ (su S p (.lst (steeps2.dropLast.map frD)))
  generalize su S p (.lst (steeps2.dropLast.map frD)) = S1 at D1 K1 e1
  refine wc_sq ?_; try simp only [DL.wcs, DL.wp, DL.ds, DL.dl, List.set, if_true, if_false, reduceCtorEq, Bool.false_eq_true, eq_self, DL.sz, true_and, DL.tp2, DL.prs, DL.isr, Bool.not_true, Bool.not_false]
  refine ⟨⟨_, lstOf_of e1⟩, _, lstOf_of e1, by decide, ?_⟩
  have D2 := D1.acc (o := .lst (steeps2.map frD)) np
  have e2 : su S1 p (.lst (steeps2.map frD)) p = some (.lst (steeps2.map frD)) := su_same
  have K2 : Keep [a, l] S (su S1 p (.lst (steeps2.map frD))) := keep_acc K1 hp Keep.refl
  change wc G Φ _ _ _ (su S1 p (.lst (steeps2.map frD)))
  generalize su S1 p (.lst (steeps2.map frD)) = S2 at D2 K2 e2
  refine wc_sq ?_; try simp only [DL.wcs, DL.wp, DL.ds, DL.dl, List.set, if_true, if_false, reduceCtorEq, Bool.false_eq_true, eq_self, DL.sz, true_and, DL.tp2, DL.prs, DL.isr, Bool.not_true, Bool.not_false, decide_eq_true_eq]
  by_cases h1 : m = 1
  · rw [if_pos h1]
    rw [if_pos h1] at k
    refine wc_sq ?_; try simp only [DL.wcs, DL.wp, DL.ds, DL.dl, List.set, if_true, if_false, reduceCtorEq, Bool.false_eq_true, eq_self, DL.sz, true_and, DL.tp2, DL.prs, DL.isr, Bool.not_true, Bool.not_false]
    intro q hq
    have nq := D2.nea hq
    have npq : p ≠ q := sne e2 hq
    refine ⟨_, _, lstOf_of (by rw [su_ne npq]; exact e2), lstOf_of su_same, by decide, fun r hr => ?_⟩
    have D3 := D2.new (o := .lst ((steeps1.dropLast.drop 14).map frD)) hq
    have nr := D3.nea hr
    have D4 := D3.new (o := .lst (steeps1.dropLast.map frD)) hr
    have K4 : Keep [a, l] S (su (su S2 q (.lst ((steeps1.dropLast.drop 14).map frD))) r (.lst (steeps1.dropLast.map frD))) := (K2.trans (Keep.new hq)).trans (Keep.new hr)
    have e4 : su (su S2 q (.lst ((steeps1.dropLast.drop 14).map frD))) r (.lst (steeps1.dropLast.map frD)) r = some (.lst (steeps1.dropLast.map frD)) := su_same
    change wc G Φ _ _ _ (su (su S2 q (.lst ((steeps1.dropLast.drop 14).map frD))) r (.lst (steeps1.dropLast.map frD)))
    have hrS : S r = none := K2.none_su hr (nin2 nr)
    generalize su (su S2 q (.lst ((steeps1.dropLast.drop 14).map frD))) r (.lst (steeps1.dropLast.map frD)) = S4 at D4 K4 e4
    refine wc_sq ?_; try simp only [DL.wcs, DL.wp, DL.ds, DL.dl, List.set, if_true, if_false, reduceCtorEq, Bool.false_eq_true, eq_self, DL.sz, true_and, DL.tp2, DL.prs, DL.isr, Bool.not_true, Bool.not_false]
    refine ⟨⟨_, lstOf_of e4⟩, _, lstOf_of e4, by decide, ?_⟩
    have D5 := D4.acc (o := .lst (steeps1.map frD)) nr
    have e5 : su S4 r (.lst (steeps1.map frD)) r = some (.lst (steeps1.map frD)) := su_same
    have K5 : Keep [a, l] S (su S4 r (.lst (steeps1.map frD))) := keep_acc K4 hrS Keep.refl
    change wc G Φ _ _ _ (su S4 r (.lst (steeps1.map frD)))
    generalize su S4 r (.lst (steeps1.map frD)) = S5 at D5 K5 e5
    refine wc_sq ?_; try simp only [DL.wcs, DL.wp, DL.ds, DL.dl, List.set, if_true, if_false, reduceCtorEq, Bool.false_eq_true, eq_self, DL.sz, true_and, DL.tp2, DL.prs, DL.isr, Bool.not_true, Bool.not_false]
    refine len_lst e5 (draw_in hd D5 e5 (nin2 nr) (by decide) (by decide) fun v S6 hv D6 K6 => ?_)
    obtain ⟨st, hst, rfl⟩ := List.mem_map.mp hv
    exact k st S6 hst D6 (K5.trans K6)
  · rw [if_neg h1]
    rw [if_neg h1] at k
    refine wc_sq ?_; try simp only [DL.wcs, DL.wp, DL.ds, DL.dl, List.set, if_true, if_false, reduceCtorEq, Bool.false_eq_true, eq_self, DL.sz, true_and, DL.tp2, DL.prs, DL.isr, Bool.not_true, Bool.not_false]
    refine len_lst e2 (draw_in hd D2 e2 (nin2 np) (by decide) (by decide) fun v S3 hv D3 K3 => ?_)
    obtain ⟨st, hst, rfl⟩ := List.mem_map.mp hv
    exact k st S3 hst D3 (K2.trans K3)
def ThrowFn (Φ : Call) : Prop := ∀ (a l : Addr) (m : Int) (x : Str) (S : Sto) (Q : QD) (X : XD), Deal a l S → 0 ≤ m → m ≤ 9 → (∀ h S', Th.Ok m h → Deal a l S' → Keep [a, l] S S' → Q (h.d x) S') → Φ 1127 [.ref a, .int m, .str x] S Q X
theorem throw_ok {G : GT} {Φ : Call} (hd : DrawOk Φ) (hs : SumFn Φ) (ht : SteepFn Φ) {a l : Addr} {m : Int} {x : Str} {S : Sto} {Q : QD} {X : XD} (h : Deal a l S) (hm : 0 ≤ m) (hm2 : m ≤ 9)
    (k : ∀ h S', Th.Ok m h → Deal a l S' → Keep [a, l] S S' → Q (h.d x) S') : wc G Φ l_throw_e024.body (endsD Q X) (startD 10 [.ref a, .int m, .str x]) S := by
  unfold l_throw_e024
  show wc G Φ _ (endsD Q X) [some (D.ref a), some (D.int m), some (D.str x), none, none, none, none, none, none, none] S
  refine wc_sq ?_; try simp only [DL.wcs, DL.wp, DL.ds, DL.dl, List.set, if_true, if_false, reduceCtorEq, Bool.false_eq_true, eq_self, DL.sz, true_and, DL.tp2, DL.prs, DL.isr, Bool.not_true, Bool.not_false]
  refine hd a l 4 _ _ _ h (by decide) (by decide) fun f S1 f0 f1 D1 K1 => ?_
  refine wc_sq ?_; try simp only [DL.wcs, DL.wp, DL.ds, DL.dl, List.set, if_true, if_false, reduceCtorEq, Bool.false_eq_true, eq_self, DL.sz, true_and, DL.tp2, DL.prs, DL.isr, Bool.not_true, Bool.not_false]
  obtain ⟨le, hle⟩ : ∃ le, le = (if decide (f = 3) = true then (1 : Int) else 0) := ⟨_, rfl⟩
  rw [← hle]
  have le0 : 0 ≤ le := by rw [hle]; split <;> decide
  have le1 : le ≤ 1 := by rw [hle]; split <;> decide
  have le3 : f = 3 → le = 1 := fun e => by rw [hle, if_pos (decide_eq_true e)]
  refine wc_sq ?_; try simp only [DL.wcs, DL.wp, DL.ds, DL.dl, List.set, if_true, if_false, reduceCtorEq, Bool.false_eq_true, eq_self, DL.sz, true_and, DL.tp2, DL.prs, DL.isr, Bool.not_true, Bool.not_false]
  refine hd a l _ _ _ _ D1 (by omega) (by omega) fun lo S2 lo0 lo1 D2 K2 => ?_
  refine wc_sq ?_; try simp only [DL.wcs, DL.wp, DL.ds, DL.dl, List.set, if_true, if_false, reduceCtorEq, Bool.false_eq_true, eq_self, DL.sz, true_and, DL.tp2, DL.prs, DL.isr, Bool.not_true, Bool.not_false]
  refine hd a l _ _ _ _ D2 (by omega) (by omega) fun r S3 r0 r1 D3 K3 => ?_
  try simp only [DL.wcs, DL.wp, DL.ds, DL.dl, List.set, if_true, if_false, reduceCtorEq, Bool.false_eq_true, eq_self, DL.sz, true_and, DL.tp2, DL.prs, DL.isr, Bool.not_true, Bool.not_false]
  obtain ⟨hi, hhi⟩ : ∃ hi, hi = lo + le + r := ⟨_, rfl⟩
  rw [← hhi]
  have ends : EndsOk lo hi := ⟨lo0, by omega, by omega⟩
  have K03 := (K1.trans K2).trans K3
  refine wc_sq ?_; try simp only [DL.wcs, DL.wp, DL.ds, DL.dl, List.set, if_true, if_false, reduceCtorEq, Bool.false_eq_true, eq_self, DL.sz, true_and, DL.tp2, DL.prs, DL.isr, Bool.not_true, Bool.not_false, decide_eq_true_eq]
  by_cases h0 : f = 0
  · rw [if_pos h0]
    refine wc_sq ?_; try simp only [DL.wcs, DL.wp, DL.ds, DL.dl, List.set, if_true, if_false, reduceCtorEq, Bool.false_eq_true, eq_self, DL.sz, true_and, DL.tp2, DL.prs, DL.isr, Bool.not_true, Bool.not_false]
    refine hs a l m _ _ _ D3 hm hm2 fun s S4 so D4 K4 => ht a l 1 _ _ _ D4 fun st S5 hst D5 K5 => ?_
    rw [if_pos rfl] at hst
    try simp only [DL.wcs, DL.wp, DL.ds, DL.dl, List.set, if_true, if_false, reduceCtorEq, Bool.false_eq_true, eq_self, DL.sz, true_and, DL.tp2, DL.prs, DL.isr, Bool.not_true, Bool.not_false]
    exact k (.ladder s st lo hi) S5 ⟨so, hst, ends⟩ D5 ((K03.trans K4).trans K5)
  rw [if_neg h0]
  refine wc_sq ?_; try simp only [DL.wcs, DL.wp, DL.ds, DL.dl, List.set, if_true, if_false, reduceCtorEq, Bool.false_eq_true, eq_self, DL.sz, true_and, DL.tp2, DL.prs, DL.isr, Bool.not_true, Bool.not_false, decide_eq_true_eq]
  by_cases h1 : f = 1
  · rw [if_pos h1]
    refine wc_sq ?_; try simp only [DL.wcs, DL.wp, DL.ds, DL.dl, List.set, if_true, if_false, reduceCtorEq, Bool.false_eq_true, eq_self, DL.sz, true_and, DL.tp2, DL.prs, DL.isr, Bool.not_true, Bool.not_false]
    refine hs a l m _ _ _ D3 hm hm2 fun s S4 so D4 K4 => hd a l 5 _ _ _ D4 (by decide) (by decide) fun z S5 z0 z1 D5 K5 => ?_
    try simp only [DL.wcs, DL.wp, DL.ds, DL.dl, List.set, if_true, if_false, reduceCtorEq, Bool.false_eq_true, eq_self, DL.sz, true_and, DL.tp2, DL.prs, DL.isr, Bool.not_true, Bool.not_false]
    exact k (.flat s z lo hi) S5 ⟨so, z0, z1, ends⟩ D5 ((K03.trans K4).trans K5)
  rw [if_neg h1]
  refine wc_sq ?_; try simp only [DL.wcs, DL.wp, DL.ds, DL.dl, List.set, if_true, if_false, reduceCtorEq, Bool.false_eq_true, eq_self, DL.sz, true_and, DL.tp2, DL.prs, DL.isr, Bool.not_true, Bool.not_false]
  refine hd a l 4 _ _ _ D3 (by decide) (by decide) fun n S4 n0 n1 D4 K4 => ?_
  try simp only [DL.wcs, DL.wp, DL.ds, DL.dl, List.set, if_true, if_false, reduceCtorEq, Bool.false_eq_true, eq_self, DL.sz, true_and, DL.tp2, DL.prs, DL.isr, Bool.not_true, Bool.not_false]
  refine ⟨by omega, by omega, fun p hp => ?_⟩
  have np := D4.nea hp
  refine lc_inv (fun i acc S1 => Deal a l S1 ∧ Keep [a, l] S4 S1 ∧ S1 p = some (.lst acc) ∧ ∃ ss : List (List Int), acc = ss.map sumD ∧ ss.length = i ∧ ∀ s ∈ ss, SumOk m s)
    ⟨D4.new hp, Keep.new hp, su_same, [], rfl, rfl, fun _ h => nomatch h⟩ (fun _ _ _ _ => trivial) ?_ ?_
  · rintro i y acc S5 N hx ⟨D5, K5, e5, ss, rfl, hss, hz⟩ hN
    have hi : i < (1 + n).toNat := by
      have := (List.getElem?_eq_some_iff.mp hx).1
      simpa using this
    try simp only [DL.wcs, DL.wp, DL.ds, DL.dl, List.set, if_true, if_false, reduceCtorEq, Bool.false_eq_true, eq_self, DL.sz, true_and, DL.tp2, DL.prs, DL.isr, Bool.not_true, Bool.not_false]
    refine hs a l m _ _ _ D5 hm hm2 fun s S6 so D6 K6 => ?_
    have e6 := K6 _ _ (nin2 np) e5
    refine ⟨_, lstOf_of e6, by rw [List.length_map, hss]; have : (9 : Nat) < sizeLine := by decide
                               omega, hN (ss.map sumD ++ [sumD s]) _ ⟨D6.acc np, keep_acc K5 hp K6, su_same, ss ++ [s], by simp, by simp [hss], ?_⟩⟩
    intro z hz'
    rcases List.mem_append.mp hz' with hz' | hz'
    · exact hz z hz'
    · rw [List.mem_singleton.mp hz']
      exact so
  · rintro acc S5 ⟨D5, K5, e5, ss, rfl, hss, hz⟩
    have hss' : ss.length = (1 + n).toNat := by simpa using hss
    refine ⟨_, seqD_of e5, ?_⟩
    have sok : 0 < ss.length ∧ ss.length ≤ 4 ∧ ∀ s ∈ ss, SumOk m s := ⟨by omega, by omega, hz⟩
    have K05 := (K03.trans K4).trans K5
    refine wc_sq ?_; try simp only [DL.wcs, DL.wp, DL.ds, DL.dl, List.set, if_true, if_false, reduceCtorEq, Bool.false_eq_true, eq_self, DL.sz, true_and, DL.tp2, DL.prs, DL.isr, Bool.not_true, Bool.not_false, decide_eq_true_eq]
    by_cases h2 : f = 2
    · rw [if_pos h2]
      refine wc_sq ?_; try simp only [DL.wcs, DL.wp, DL.ds, DL.dl, List.set, if_true, if_false, reduceCtorEq, Bool.false_eq_true, eq_self, DL.sz, true_and, DL.tp2, DL.prs, DL.isr, Bool.not_true, Bool.not_false]
      refine ht a l 1 _ _ _ D5 fun st S6 hst D6 K6 => ?_
      rw [if_pos rfl] at hst
      try simp only [DL.wcs, DL.wp, DL.ds, DL.dl, List.set, if_true, if_false, reduceCtorEq, Bool.false_eq_true, eq_self, DL.sz, true_and, DL.tp2, DL.prs, DL.isr, Bool.not_true, Bool.not_false]
      exact k (.choose ss st lo hi) S6 ⟨sok, hst, ends⟩ D6 (K05.trans K6)
    rw [if_neg h2]
    have h3 : le = 1 := le3 (by omega)
    refine wc_sq ?_; try simp only [DL.wcs, DL.wp, DL.ds, DL.dl, List.set, if_true, if_false, reduceCtorEq, Bool.false_eq_true, eq_self, DL.sz, true_and, DL.tp2, DL.prs, DL.isr, Bool.not_true, Bool.not_false]
    refine hd a l _ _ _ _ D5 (by omega) (by omega) fun mk S6 mk0 mk1 D6 K6 => ?_
    refine wc_sq ?_; try simp only [DL.wcs, DL.wp, DL.ds, DL.dl, List.set, if_true, if_false, reduceCtorEq, Bool.false_eq_true, eq_self, DL.sz, true_and, DL.tp2, DL.prs, DL.isr, Bool.not_true, Bool.not_false]
    refine ht a l 1 _ _ _ D6 fun st S7 hst D7 K7 => ht a l 2 _ _ _ D7 fun st2 S8 hst2 D8 K8 => ?_
    rw [if_pos rfl] at hst
    rw [if_neg (by decide)] at hst2
    try simp only [DL.wcs, DL.wp, DL.ds, DL.dl, List.set, if_true, if_false, reduceCtorEq, Bool.false_eq_true, eq_self, DL.sz, true_and, DL.tp2, DL.prs, DL.isr, Bool.not_true, Bool.not_false]
    exact k (.first (lo + mk) st st2 ss lo hi) S8 ⟨sok, hst, hst2, ends, by omega, by omega, by omega⟩ D8 (((K05.trans K6).trans K7).trans K8)

def TermFn (n : Nat) (Φ : Call) : Prop := ∀ (a l kn : Addr) (ws : List Str) (room : Int) (deep : Nat) (S : Sto) (Q : QD) (X : XD), deep ≤ n → Deal a l S → S kn = some (.lst (ws.map D.str)) → kn ∉ [a, l] → room < 2 ^ 60 → ws.length < 2 ^ 60 →
  (∀ (t : Tm) S', t.Good → (∀ x ∈ t.names, x ∈ ws) → t.deep ≤ max deep 1 → Deal a l S' → Keep [a, l] S S' → Q t.d S') → Φ 1124 [.ref a, .ref kn, .int room, .int (deep : Nat)] S Q X
theorem str_at {z : String} {l : List Nat} (hl : z.toList.map Char.toNat = l) : (Str.ofString z).cps.toList = l := by
  rw [Str.ofString_eq_toList, ← hl]
theorem str_len {z : Str} {l : List Nat} (h : z.cps.toList = l) : z.length = l.length := by
  rw [← h, Array.length_toList]
  rfl
theorem signs_at : (("+-*<=" : String) : Str).cps.toList = [43, 45, 42, 60, 61] := str_at (by decide)
/-- a sign's draw: z[draw(n)] -/
theorem draw_sign {Φ : Call} (hd : DrawOk Φ) {a l : Addr} {S : Sto} {z : Str} {cs : List Nat} {n : Int} {K : QD} {X : XD} (h : Deal a l S) (hz : z.cps.toList = cs) (hn : n = (cs.length : Int)) (h0 : 0 < n) (h1 : n < 10000000)
    (k : ∀ c S', c ∈ cs → Deal a l S' → Keep [a, l] S S' → K (.str ⟨#[c]⟩) S') : Φ 1022 [.ref a, .int n] S (fun e S2 => idxD (.str z) e S2 K) X := by
  refine hd a l n _ _ _ h h0 (by omega) fun r S2 r0 r1 D2 K2 => ?_
  obtain ⟨v, hv, e2⟩ := atI_lt (xs := cs) r0 (by omega)
  refine idx_str ?_ (by rw [hz]; exact e2) (k v S2 hv D2 K2)
  rw [str_len hz]
  have : 10000000 < sizeLine := by decide
  omega
theorem term_ok {G : GT} {Φ : Call} {n : Nat} (hd : DrawOk Φ) (hr : ∀ m, n = m + 1 → TermFn m Φ) {a l kn : Addr} {ws : List Str} {room : Int} {deep : Nat} {S : Sto} {Q : QD} {X : XD} (hn : deep ≤ n) (h : Deal a l S) (ek : S kn = some (.lst (ws.map D.str))) (nk : kn ∉ [a, l]) (hroom : room < 2 ^ 60) (hws : ws.length < 2 ^ 60)
    (k : ∀ (t : Tm) S', t.Good → (∀ x ∈ t.names, x ∈ ws) → t.deep ≤ max deep 1 → Deal a l S' → Keep [a, l] S S' → Q t.d S') : wc G Φ l_term_77e0.body (endsD Q X) (startD 6 [.ref a, .ref kn, .int room, .int (deep : Nat)]) S := by
  unfold l_term_77e0
  show wc G Φ _ (endsD Q X) [some (D.ref a), some (D.ref kn), some (D.int room), some (D.int (deep : Nat)), none, none] S
  refine sq_then (fun ρ S' => ρ = [some (D.ref a), some (D.ref kn), some (D.int room), some (D.int (deep : Nat)), none, none] ∧ Deal a l S' ∧ Keep [a, l] S S') ?_ fun N hN => ?_
  · rintro ρ S1 ⟨rfl, D1, K1⟩
    have ek1 := K1 _ _ nk ek
    refine sq_then (fun ρ S' => ρ = [some (D.ref a), some (D.ref kn), some (D.int room), some (D.int (deep : Nat)), none, none] ∧ Deal a l S' ∧ Keep [a, l] S S') ?_ fun N hN => ?_
    · rintro ρ S2 ⟨rfl, D2, K2⟩
      refine wc_sq ?_; try simp only [DL.wcs, DL.wp, DL.ds, DL.dl, List.set, if_true, if_false, reduceCtorEq, Bool.false_eq_true, eq_self, DL.sz, true_and, DL.tp2, DL.prs, DL.isr, Bool.not_true, Bool.not_false]
      refine pick_ok hd D2 rfl (by decide) (by decide) fun v S3 hv D3 K3 => ?_
      obtain ⟨m2, rfl, hm2, hm3⟩ : ∃ m2 : Int, v = .int m2 ∧ 0 < m2 ∧ m2 ≤ 1000 := by
        simp only [List.mem_cons, List.not_mem_nil, or_false] at hv
        rcases hv with rfl | rfl | rfl
        · exact ⟨3, rfl, by decide, by decide⟩
        · exact ⟨10, rfl, by decide, by decide⟩
        · exact ⟨1000, rfl, by decide, by decide⟩
      refine hd a l m2 _ _ _ D3 hm2 (by omega) fun r S4 r0 r1 D4 K4 => ?_
      try simp only [DL.wcs, DL.wp, DL.ds, DL.dl, List.set, if_true, if_false, reduceCtorEq, Bool.false_eq_true, eq_self, DL.sz, true_and, DL.tp2, DL.prs, DL.isr, Bool.not_true, Bool.not_false]
      exact k (.num r) S4 ⟨r0, by omega⟩ (fun _ h => nomatch h) (Nat.le_max_right _ _) D4 ((K2.trans K3).trans K4)
    · try simp only [DL.wcs, DL.wp, DL.ds, DL.dl, List.set, if_true, if_false, reduceCtorEq, Bool.false_eq_true, eq_self, DL.sz, true_and, DL.tp2, DL.prs, DL.isr, Bool.not_true, Bool.not_false, decide_eq_true_eq]
      refine len_lst ek1 ?_
      by_cases h0 : (0 : Int) < ((ws.map D.str).length : Nat)
      · rw [if_pos h0]
        refine hd a l 4 _ _ _ D1 (by decide) (by decide) fun r S2 r0 r1 D2 K2 => ?_
        try simp only [DL.wcs, DL.wp, DL.ds, DL.dl, List.set, if_true, if_false, reduceCtorEq, Bool.false_eq_true, eq_self, DL.sz, true_and, DL.tp2, DL.prs, DL.isr, Bool.not_true, Bool.not_false, decide_eq_true_eq]
        by_cases h1 : 0 < r
        · rw [if_pos h1]
          refine wc_sq ?_; try simp only [DL.wcs, DL.wp, DL.ds, DL.dl, List.set, if_true, if_false, reduceCtorEq, Bool.false_eq_true, eq_self, DL.sz, true_and, DL.tp2, DL.prs, DL.isr, Bool.not_true, Bool.not_false]
          have ek2 := K2 _ _ nk ek1
          rw [List.length_map] at h0
          refine len_lst ek2 (draw_in hd D2 ek2 nk (by rw [List.length_map]; omega) (by rw [List.length_map]; omega) fun v S3 hv D3 K3 => ?_)
          obtain ⟨w, hw, rfl⟩ := List.mem_map.mp hv
          try simp only [DL.wcs, DL.wp, DL.ds, DL.dl, List.set, if_true, if_false, reduceCtorEq, Bool.false_eq_true, eq_self, DL.sz, true_and, DL.tp2, DL.prs, DL.isr, Bool.not_true, Bool.not_false]
          exact k (.name w) S3 trivial (fun x hx => by rw [List.mem_singleton.mp hx]; exact hw) (Nat.le_max_right _ _) D3 ((K1.trans K2).trans K3)
        · rw [if_neg h1]
          exact hN _ _ ⟨rfl, D2, K1.trans K2⟩
      · rw [if_neg h0]
        exact hN _ _ ⟨rfl, D1, K1⟩
  · try simp only [DL.wcs, DL.wp, DL.ds, DL.dl, List.set, if_true, if_false, reduceCtorEq, Bool.false_eq_true, eq_self, DL.sz, true_and, DL.tp2, DL.prs, DL.isr, Bool.not_true, Bool.not_false, decide_eq_true_eq]
    have out := hN _ _ ⟨rfl, h, Keep.refl⟩
    by_cases h0 : 2 < room
    · rw [if_pos h0]
      by_cases h1 : (1 : Int) < (deep : Nat)
      · rw [if_pos h1]
        refine hd a l 3 _ _ _ h (by decide) (by decide) fun r S1 r0 r1 D1 K1 => ?_
        try simp only [DL.wcs, DL.wp, DL.ds, DL.dl, List.set, if_true, if_false, reduceCtorEq, Bool.false_eq_true, eq_self, DL.sz, true_and, DL.tp2, DL.prs, DL.isr, Bool.not_true, Bool.not_false, decide_eq_true_eq]
        by_cases h2 : 0 < r
        · rw [if_pos h2]
          obtain ⟨n', rfl⟩ : ∃ n', n = n' + 1 := ⟨n - 1, by omega⟩
          obtain ⟨d', rfl⟩ : ∃ d', deep = d' + 1 := ⟨deep - 1, by omega⟩
          have hT := hr n' rfl
          have ed : ((d' + 1 : Nat) : Int) - 1 = (d' : Nat) := by omega
          refine wc_sq ?_; try simp only [DL.wcs, DL.wp, DL.ds, DL.dl, List.set, if_true, if_false, reduceCtorEq, Bool.false_eq_true, eq_self, DL.sz, true_and, DL.tp2, DL.prs, DL.isr, Bool.not_true, Bool.not_false]
          refine hd a l _ _ _ _ D1 (by omega) (by omega) fun p S2 p0 p1 D2 K2 => ?_
          refine wc_sq ?_; try simp only [DL.wcs, DL.wp, DL.ds, DL.dl, List.set, if_true, if_false, reduceCtorEq, Bool.false_eq_true, eq_self, DL.sz, true_and, DL.tp2, DL.prs, DL.isr, Bool.not_true, Bool.not_false]
          rw [ed]
          refine hT a l kn ws _ d' _ _ _ (by omega) D2 (K2 _ _ nk (K1 _ _ nk ek)) nk (by omega) hws fun t1 S3 g1 n1 dp1 D3 K3 => ?_
          refine wc_sq ?_; try simp only [DL.wcs, DL.wp, DL.ds, DL.dl, List.set, if_true, if_false, reduceCtorEq, Bool.false_eq_true, eq_self, DL.sz, true_and, DL.tp2, DL.prs, DL.isr, Bool.not_true, Bool.not_false]
          refine draw_sign hd D3 signs_at rfl (by decide) (by decide) fun c S4 hc D4 K4 => ?_
          try simp only [DL.wcs, DL.wp, DL.ds, DL.dl, List.set, if_true, if_false, reduceCtorEq, Bool.false_eq_true, eq_self, DL.sz, true_and, DL.tp2, DL.prs, DL.isr, Bool.not_true, Bool.not_false]
          rw [ed]
          refine hT a l kn ws _ d' _ _ _ (by omega) D4 (K4 _ _ nk (K3 _ _ nk (K2 _ _ nk (K1 _ _ nk ek)))) nk (by omega) hws fun t2 S5 g2 n2 dp2 D5 K5 => ?_
          try simp only [DL.wcs, DL.wp, DL.ds, DL.dl, List.set, if_true, if_false, reduceCtorEq, Bool.false_eq_true, eq_self, DL.sz, true_and, DL.tp2, DL.prs, DL.isr, Bool.not_true, Bool.not_false]
          refine k (.op c t1 t2) S5 ⟨hc, g1, g2⟩ (fun x hx => ?_) ?_ D5 ((((K1.trans K2).trans K3).trans K4).trans K5)
          · rcases List.mem_append.mp hx with hx | hx
            · exact n1 x hx
            · exact n2 x hx
          · show 1 + max t1.deep t2.deep ≤ _
            omega
        · rw [if_neg h2]
          exact hN _ _ ⟨rfl, D1, K1⟩
      · rw [if_neg h1]
        exact out
    · rw [if_neg h0]
      exact out
/-! ### names -/
def NmOk (x : Str) : Prop := x.length ≤ 8 ∧ ∀ c ∈ x.cps.toList, 97 ≤ c ∧ c ≤ 122
theorem letters_at : (("abcdefghijklmnopqrstuvwxyz" : String) : Str).cps.toList = (List.range 26).map fun i => 97 + i := str_at (by decide)
theorem letters_get {i : Nat} (h : i < 26) : atI ((List.range 26).map fun i => 97 + i) ((i : Nat) : Int) = some (97 + i) := by
  unfold atI ixN
  rw [if_pos (by omega), if_pos (by simp; omega)]
  simp [h]
def keptW : List Str := ["kinds", "ladder", "flat", "choose", "first", "let", "tell", "when", "else", "times", "end", "of"]
def fixW (w : Str) : Str := if w ∈ keptW then w ++ "q" else w
def mkW (cl : List Nat) (at' tu k : Nat) : Str := ⟨(cl.take at' ++ [97 + (tu + 7 * k) % 26] ++ cl.drop at').toArray⟩
theorem kept_len : ∀ w ∈ keptW, w.length ≤ 6 := by decide +kernel
theorem q_at : (("q" : String) : Str).cps.toList = [113] := str_at (by decide)
theorem fixW_ok {w : Str} (h : w.length ≤ 7) (hc : ∀ c ∈ w.cps.toList, 97 ≤ c ∧ c ≤ 122) : NmOk (fixW w) := by
  unfold fixW
  split
  · rename_i hk
    have := kept_len w hk
    refine ⟨?_, fun c h' => ?_⟩
    · rw [len_cps, cps_add, List.length_append, q_at, ← len_cps]; simp only [List.length_cons, List.length_nil]; omega
    · rw [cps_add, q_at] at h'
      rcases List.mem_append.mp h' with h' | h'
      · exact hc c h'
      · rw [List.mem_singleton.mp h']; decide
  · exact ⟨by omega, hc⟩
theorem fixW_inj {x y : Str} (hl : x.length = y.length) (h : fixW x = fixW y) : x = y := by
  unfold fixW at h
  have len : ∀ z : Str, (z ++ ("q" : Str)).length = z.length + 1 := fun z => by
    rw [len_cps, cps_add, List.length_append, q_at, ← len_cps]; rfl
  split at h
  · split at h
    · have h2 := congrArg (fun z : Str => z.cps.toList) h
      simp only [cps_add] at h2
      exact str_ext (List.append_cancel_right h2)
    · have := congrArg Str.length h
      rw [len] at this
      omega
  · split at h
    · have := congrArg Str.length h
      rw [len] at this
      omega
    · exact h
theorem mkW_inj {cl : List Nat} {p tu i j : Nat} (hi : i < 9) (hj : j < 9) (h : mkW cl p tu i = mkW cl p tu j) : i = j := by
  have h2 := congrArg (fun z : Str => z.cps.toList) h
  simp only [mkW] at h2
  have h3 := List.append_cancel_right h2
  have h4 := List.append_cancel_left h3
  have h5 : 97 + (tu + 7 * i) % 26 = 97 + (tu + 7 * j) % 26 := by injection h4
  omega
theorem mkW_len {cl : List Nat} {p tu i : Nat} : (mkW cl p tu i).length = cl.length + 1 := by
  rw [len_cps]
  simp only [mkW, List.length_append, List.length_cons, List.length_nil, List.length_take, List.length_drop]
  omega
def wordsW (cl : List Nat) (p tu n : Nat) : List Str := (List.range n).map fun k => fixW (mkW cl p tu k)
theorem wordsW_nodup {cl : List Nat} {p tu n : Nat} (hn : n ≤ 9) : (wordsW cl p tu n).Nodup := by
  unfold wordsW List.Nodup
  rw [List.pairwise_map]
  refine List.Pairwise.imp_of_mem (fun {i j} hi hj (hne : i ≠ j) h => ?_) (List.nodup_range (n := n))
  have hi' := List.mem_range.mp hi
  have hj' := List.mem_range.mp hj
  exact hne (mkW_inj (by omega) (by omega) (fixW_inj (by rw [mkW_len, mkW_len]) h))
theorem join_e (ys : List Str) : (Txt.join ("" : Str) ys).cps.toList = (ys.map fun y => y.cps.toList).flatten := by
  have e : Txt.join ("" : Str) ys = Str.join ("" : Str) ys := StrLaws.glued_eq_join _ _
  have e0 : (("" : String) : Str).cps.toList = [] := str_at (by decide)
  rw [e]
  induction ys with
  | nil => rfl
  | cons y ys ih =>
    cases ys with
    | nil => simp [Str.join]
    | cons z ys =>
      have : Str.join ("" : Str) (y :: z :: ys) = y ++ ("" : Str) ++ Str.join ("" : Str) (z :: ys) := rfl
      rw [this, cps_add, cps_add, e0, ih (StrLaws.glued_eq_join _ _), List.append_nil]
      rfl
def NamesFn (Φ : Call) : Prop := ∀ (a l : Addr) (m : Int) (S : Sto) (Q : QD) (X : XD), Deal a l S → 0 ≤ m → m ≤ 9 →
  (∀ (ws : List Str) p S', S p = none → S' p = some (.lst (ws.map D.str)) → ws.length = m.toNat → ws.Nodup → (∀ w ∈ ws, NmOk w) → Deal a l S' → Keep [a, l] S S' → Q (.ref p) S') → Φ 1062 [.ref a, .int m] S Q X
theorem names_ok {G : GT} {Φ : Call} (hd : DrawOk Φ) {a l : Addr} {m : Int} {S : Sto} {Q : QD} {X : XD} (h : Deal a l S) (hm : 0 ≤ m) (hm2 : m ≤ 9)
    (k : ∀ (ws : List Str) p S', S p = none → S' p = some (.lst (ws.map D.str)) → ws.length = m.toNat → ws.Nodup → (∀ w ∈ ws, NmOk w) → Deal a l S' → Keep [a, l] S S' → Q (.ref p) S') : wc G Φ l_names_f643.body (endsD Q X) (startD 9 [.ref a, .int m]) S := by
  unfold l_names_f643
  show wc G Φ _ (endsD Q X) [some (D.ref a), some (D.int m), none, none, none, none, none, none, none] S
  refine wc_sq ?_; try simp only [DL.wcs, DL.wp, DL.ds, DL.dl, List.set, if_true, if_false, reduceCtorEq, Bool.false_eq_true, eq_self, DL.sz, true_and, DL.tp2, DL.prs, DL.isr, Bool.not_true, Bool.not_false]
  refine wc_sq ?_; try simp only [DL.wcs, DL.wp, DL.ds, DL.dl, List.set, if_true, if_false, reduceCtorEq, Bool.false_eq_true, eq_self, DL.sz, true_and, DL.tp2, DL.prs, DL.isr, Bool.not_true, Bool.not_false]
  refine ⟨trivial, hd a l 7 _ _ _ h (by decide) (by decide) fun n S1 n0 n1 D1 K1 => ?_⟩
  try simp only [DL.wcs, DL.wp, DL.ds, DL.dl, List.set, if_true, if_false, reduceCtorEq, Bool.false_eq_true, eq_self, DL.sz, true_and, DL.tp2, DL.prs, DL.isr, Bool.not_true, Bool.not_false]
  refine ⟨by omega, by omega, fun p hp => ?_⟩
  have np := D1.nea hp
  refine lc_inv (fun i acc S2 => Deal a l S2 ∧ Keep [a, l] S S2 ∧ S2 p = some (.lst acc) ∧ ∃ cs : List Nat, acc = (cs.map fun c => (⟨#[c]⟩ : Str)).map D.str ∧ cs.length = i ∧ ∀ c ∈ cs, 97 ≤ c ∧ c ≤ 122)
    ⟨D1.new hp, K1.trans (Keep.new hp), su_same, [], rfl, rfl, fun _ h => nomatch h⟩ (fun _ _ _ _ => trivial) ?_ ?_
  · rintro i x acc S2 N hx ⟨D2, K2, e2, cs, rfl, hs, hz⟩ hN
    have hi : i < 7 := by
      have := (List.getElem?_eq_some_iff.mp hx).1
      simp at this
      omega
    try simp only [DL.wcs, DL.wp, DL.ds, DL.dl, List.set, if_true, if_false, reduceCtorEq, Bool.false_eq_true, eq_self, DL.sz, true_and, DL.tp2, DL.prs, DL.isr, Bool.not_true, Bool.not_false]
    refine draw_sign hd D2 letters_at (by decide) (by decide) (by decide) fun c S3 hc D3 K3 => ?_
    have e3 := K3 _ _ (nin2 np) e2
    have hpS : S p = none := K1.none_of hp (nin2 np)
    refine ⟨_, lstOf_of e3, by rw [List.length_map, List.length_map, hs]; have : (9 : Nat) < sizeLine := by decide
                               omega, hN (((cs ++ [c]).map fun c => (⟨#[c]⟩ : Str)).map D.str) _ ⟨D3.acc np, keep_acc K2 hpS K3, by rw [su_same]; simp, cs ++ [c], rfl, by simp [hs], ?_⟩⟩
    intro z hz'
    rcases List.mem_append.mp hz' with hz' | hz'
    · exact hz z hz'
    · rw [List.mem_singleton.mp hz']
      obtain ⟨j, hj, rfl⟩ := List.mem_map.mp hc
      have := List.mem_range.mp hj
      omega
  · rintro acc S2 ⟨D2, K2, e2, cs, rfl, hs, hz⟩
    have hs6 : cs.length ≤ 6 := by
      rw [hs, List.length_map, List.length_range]
      omega
    have hq0 : (("" : String) : Str).length = 0 := by decide +kernel
    refine ⟨_, _, seqD_of e2, strsD_map _, ?_, ?_⟩
    · rw [hq0, List.length_map, Nat.mul_zero, Nat.add_zero, List.map_map]
      have : ∀ cs : List Nat, (cs.map ((fun x : Str => x.length) ∘ fun c => (⟨#[c]⟩ : Str))).sum = cs.length := by
        intro cs
        induction cs with
        | nil => rfl
        | cons c cs ih => rw [List.map_cons, List.sum_cons, ih, List.length_cons]; show 1 + _ = _; omega
      rw [this]
      omega
    have ecl : (Txt.join ("" : Str) (cs.map fun c => (⟨#[c]⟩ : Str))).cps.toList = cs := by
      rw [join_e, List.map_map]
      clear e2 hs hz hs6
      induction cs with
      | nil => rfl
      | cons c cs ih => rw [List.map_cons, List.flatten_cons, ih]; rfl
    generalize Txt.join ("" : Str) (cs.map fun c => (⟨#[c]⟩ : Str)) = core at ecl
    have hcl : core.length = cs.length := by rw [len_cps, ecl]
    refine wc_sq ?_; try simp only [DL.wcs, DL.wp, DL.ds, DL.dl, List.set, if_true, if_false, reduceCtorEq, Bool.false_eq_true, eq_self, DL.sz, true_and, DL.tp2, DL.prs, DL.isr, Bool.not_true, Bool.not_false]
    refine ⟨by rw [hcl]; have : 10000 < sizeLine := by decide
               omega, ?_⟩
    refine hd a l _ _ _ _ D2 (by omega) (by omega) fun at' S3 at0 at1 D3 K3 => ?_
    obtain ⟨p', rfl⟩ : ∃ p' : Nat, at' = (p' : Int) := ⟨at'.toNat, by omega⟩
    have hp' : p' ≤ cs.length := by omega
    refine wc_sq ?_; try simp only [DL.wcs, DL.wp, DL.ds, DL.dl, List.set, if_true, if_false, reduceCtorEq, Bool.false_eq_true, eq_self, DL.sz, true_and, DL.tp2, DL.prs, DL.isr, Bool.not_true, Bool.not_false]
    refine hd a l 26 _ _ _ D3 (by decide) (by decide) fun tu S4 tu0 tu1 D4 K4 => ?_
    obtain ⟨u, rfl⟩ : ∃ u : Nat, tu = (u : Int) := ⟨tu.toNat, by omega⟩
    refine wc_sq ?_; try simp only [DL.wcs, DL.wp, DL.ds, DL.dl, List.set, if_true, if_false, reduceCtorEq, Bool.false_eq_true, eq_self, DL.sz, true_and, DL.tp2, DL.prs, DL.isr, Bool.not_true, Bool.not_false]
    intro q hq
    have nq := D4.nea hq
    have K04 := (K2.trans K3).trans K4
    have hqS : S q = none := K04.none_of hq (nin2 nq)
    refine wc_sq ?_; try simp only [DL.wcs, DL.wp, DL.ds, DL.dl, List.set, if_true, if_false, reduceCtorEq, Bool.false_eq_true, eq_self, DL.sz, true_and, DL.tp2, DL.prs, DL.isr, Bool.not_true, Bool.not_false]
    refine ⟨by omega, by omega, ?_⟩
    refine for_inv (fun i ρ S' => ∃ o7 o8, ρ = [some (D.ref a), some (D.int m), some (D.str "abcdefghijklmnopqrstuvwxyz"), some (D.str core), some (D.int (p' : Nat)), some (D.int (u : Nat)), some (D.ref q), o7, o8] ∧ Deal a l S' ∧ Keep [a, l] S S' ∧
        S' q = some (.lst ((wordsW cs p' u i).map D.str))) ⟨none, none, rfl, D4.new hq, K04.trans (Keep.new hq), su_same⟩ (fun _ _ _ _ => trivial) ?_ ?_
    · rintro i x ρ S5 N hx ⟨o7, o8, rfl, D5, K5, e5⟩ hN
      obtain ⟨hi, rfl⟩ := range_item hx
      try simp only [DL.wcs, DL.wp, DL.ds, DL.dl, List.set, if_true, if_false, reduceCtorEq, Bool.false_eq_true, eq_self, DL.sz, true_and, DL.tp2, DL.prs, DL.isr, Bool.not_true, Bool.not_false]
      refine wc_sq ?_; try simp only [DL.wcs, DL.wp, DL.ds, DL.dl, List.set, if_true, if_false, reduceCtorEq, Bool.false_eq_true, eq_self, DL.sz, true_and, DL.tp2, DL.prs, DL.isr, Bool.not_true, Bool.not_false]
      refine ⟨by rw [hcl]; have : 10000 < sizeLine := by decide
                 omega, ?_⟩
      try simp only [DL.wcs, DL.wp, DL.ds, DL.dl, List.set, if_true, if_false, reduceCtorEq, Bool.false_eq_true, eq_self, DL.sz, true_and, DL.tp2, DL.prs, DL.isr, Bool.not_true, Bool.not_false]
      refine ⟨.inl (.inl ⟨by decide, by decide⟩), by decide, ?_⟩
      have em : ((u : Nat) + 7 * (i : Nat) : Int) % 26 = (((u + 7 * i) % 26 : Nat) : Int) := by omega
      rw [em]
      refine idx_str (by rw [str_len letters_at]; decide) (by rw [letters_at]; exact letters_get (Nat.mod_lt _ (by decide))) ?_
      have hsz : 10000 < sizeLine := by decide
      have lt : (cutS core none (some ((p' : Nat) : Int))).length ≤ 6 := by rw [len_cps, cut_to, ecl, List.length_take]; omega
      have lf : (cutS core (some ((p' : Nat) : Int)) none).length ≤ 6 := by rw [len_cps, cut_from, ecl, List.length_drop]; omega
      have l1 : (⟨#[97 + (u + 7 * i) % 26]⟩ : Str).length = 1 := rfl
      refine strs_add (by omega) ?_
      try simp only [DL.wcs, DL.wp, DL.ds, DL.dl, List.set, if_true, if_false, reduceCtorEq, Bool.false_eq_true, eq_self, DL.sz, true_and, DL.tp2, DL.prs, DL.isr, Bool.not_true, Bool.not_false]
      refine ⟨by omega, strs_add (by rw [len_cps, cps_add, List.length_append, ← len_cps, ← len_cps]; omega) ?_⟩
      have ew : cutS core none (some ((p' : Nat) : Int)) ++ (⟨#[97 + (u + 7 * i) % 26]⟩ : Str) ++ cutS core (some ((p' : Nat) : Int)) none = mkW cs p' u i := by
        apply str_ext
        rw [cps_add, cps_add, cut_to, cut_from, ecl]
        rfl
      rw [ew]
      try simp only [DL.wcs, DL.wp, DL.ds, DL.dl, List.set, if_true, if_false, reduceCtorEq, Bool.false_eq_true, eq_self, DL.sz, true_and, DL.tp2, DL.prs, DL.isr, Bool.not_true, Bool.not_false]
      refine sq_then (fun ρ S' => S' = S5 ∧ ρ = [some (D.ref a), some (D.int m), some (D.str "abcdefghijklmnopqrstuvwxyz"), some (D.str core), some (D.int (p' : Nat)), some (D.int (u : Nat)), some (D.ref q), some (D.int (i : Nat)), some (D.str (fixW (mkW cs p' u i)))]) ?_ fun M hM => ?_
      · rintro ρ S' ⟨rfl, rfl⟩
        refine wc_sq ?_; try simp only [DL.wcs, DL.wp, DL.ds, DL.dl, List.set, if_true, if_false, reduceCtorEq, Bool.false_eq_true, eq_self, DL.sz, true_and, DL.tp2, DL.prs, DL.isr, Bool.not_true, Bool.not_false]
        refine ⟨⟨_, lstOf_of e5⟩, _, lstOf_of e5, by rw [List.length_map, wordsW, List.length_map, List.length_range]; omega, ?_⟩
        refine hN _ _ ⟨_, _, rfl, D5.acc nq, keep_acc K5 hqS Keep.refl, ?_⟩
        rw [su_same, wordsW, wordsW, List.range_succ, List.map_append, List.map_append]
        rfl
      · try simp only [DL.wcs, DL.wp, DL.ds, DL.dl, List.set, if_true, if_false, reduceCtorEq, Bool.false_eq_true, eq_self, DL.sz, true_and, DL.tp2, DL.prs, DL.isr, Bool.not_true, Bool.not_false]
        refine in_strsT (ys := keptW) ?_
        try simp only [DL.wcs, DL.wp, DL.ds, DL.dl, List.set, if_true, if_false, reduceCtorEq, Bool.false_eq_true, eq_self, DL.sz, true_and, DL.tp2, DL.prs, DL.isr, Bool.not_true, Bool.not_false, decide_eq_true_eq]
        by_cases hk : mkW cs p' u i ∈ keptW
        · rw [if_pos hk]
          refine wc_sq ?_; try simp only [DL.wcs, DL.wp, DL.ds, DL.dl, List.set, if_true, if_false, reduceCtorEq, Bool.false_eq_true, eq_self, DL.sz, true_and, DL.tp2, DL.prs, DL.isr, Bool.not_true, Bool.not_false]
          refine strs_add (by rw [mkW_len]; have : (("q" : String) : Str).length = 1 := by rw [str_len q_at]; rfl
                              omega) ?_
          refine hM _ _ ⟨rfl, ?_⟩
          rw [fixW, if_pos hk]
        · rw [if_neg hk]
          refine hM _ _ ⟨rfl, ?_⟩
          rw [fixW, if_neg hk]
    · rintro ρ S5 ⟨o7, o8, rfl, D5, K5, e5⟩
      rw [List.length_map, List.length_range] at e5
      refine wc_sq ?_; try simp only [DL.wcs, DL.wp, DL.ds, DL.dl, List.set, if_true, if_false, reduceCtorEq, Bool.false_eq_true, eq_self, DL.sz, true_and, DL.tp2, DL.prs, DL.isr, Bool.not_true, Bool.not_false]
      refine k (wordsW cs p' u m.toNat) q S5 hqS e5 (by rw [wordsW, List.length_map, List.length_range]) (wordsW_nodup (by omega)) (fun w hw => ?_) D5 K5
      obtain ⟨j, hj, rfl⟩ := List.mem_map.mp hw
      refine fixW_ok (by rw [mkW_len]; omega) fun c hc => ?_
      simp only [mkW, List.mem_append, List.mem_singleton] at hc
      rcases hc with (hc | rfl) | hc
      · exact hz c (List.mem_of_mem_take hc)
      · omega
      · exact hz c (List.mem_of_mem_drop hc)
end DL

set_option Elab.async false
set_option linter.all false
set_option maxRecDepth 100000
/-! LB: blocks of rows that are drawn (k17, k19) -/
namespace DL
open PySem PySem.Spec PyProof.Rows L2

inductive Rws where
  | nil | thr (x : Str) (h : Th) (r : Rws) | lt (x : Str) (t : Tm) (r : Rws) | tell (t : Tm) (r : Rws) | whn (t : Tm) (a b r : Rws) | tms (n : Int) (a r : Rws)
namespace Rws
def l : Rws → List D
  | nil => []
  | thr x h r => h.d x :: r.l
  | lt x t r => .tup [.str "let", .str x, t.d] :: r.l
  | tell t r => .tup [.str "tell", t.d] :: r.l
  | whn t a b r => .tup [.str "when", t.d, .tup a.l, .tup b.l] :: r.l
  | tms n a r => .tup [.str "times", .int n, .tup a.l] :: r.l
def app : Rws → Rws → Rws
  | nil, s => s
  | thr x h r, s => thr x h (r.app s)
  | lt x t r, s => lt x t (r.app s)
  | tell t r, s => tell t (r.app s)
  | whn t a b r, s => whn t a b (r.app s)
  | tms n a r, s => tms n a (r.app s)
/-- the names that are set behind -/
def nf : Rws → List Str → List Str
  | nil, k => k
  | thr x _ r, k => r.nf (k ++ [x])
  | lt x _ r, k => r.nf (k ++ [x])
  | tell _ r, k => r.nf k
  | whn _ a b r, k => r.nf ((a.nf k).filter fun x => decide (x ∈ b.nf k))
  | tms _ a r, k => r.nf (a.nf k)
def tells : Rws → Int
  | nil => 0
  | thr _ _ r => r.tells
  | lt _ _ r => r.tells
  | tell _ r => 1 + r.tells
  | whn _ a _ r => a.tells + r.tells
  | tms n a r => n * a.tells + r.tells
def nest : Rws → Nat
  | nil => 0
  | thr _ _ r => r.nest
  | lt _ _ r => r.nest
  | tell _ r => r.nest
  | whn _ a b r => max (1 + max a.nest b.nest) r.nest
  | tms _ a r => max (1 + a.nest) r.nest
def size : Rws → Nat
  | nil => 0
  | thr _ _ r => 1 + r.size
  | lt _ _ r => 1 + r.size
  | tell _ r => 1 + r.size
  | whn _ a b r => 1 + a.size + b.size + r.size
  | tms _ a r => 1 + a.size + r.size
end Rws
def TOk (t : Tm) (k : List Str) : Prop := t.Good ∧ (∀ x ∈ t.names, x ∈ k) ∧ t.deep ≤ 6
def Rws.Ok (m : Int) : Rws → List Str → Prop
  | nil, _ => True
  | thr x h r, k => NmOk x ∧ h.Ok m ∧ r.Ok m (k ++ [x])
  | lt x t r, k => NmOk x ∧ TOk t k ∧ r.Ok m (k ++ [x])
  | tell t r, k => TOk t k ∧ r.Ok m k
  | whn t a b r, k => TOk t k ∧ a.Ok m k ∧ b.Ok m k ∧ a.tells = b.tells ∧ r.Ok m ((a.nf k).filter fun x => decide (x ∈ b.nf k))
  | tms n a r, k => 1 ≤ n ∧ n ≤ 3 ∧ a.Ok m k ∧ r.Ok m (a.nf k)
namespace Rws
theorem l_app : ∀ r s : Rws, (r.app s).l = r.l ++ s.l
  | nil, _ => rfl
  | thr _ _ r, s => by simp only [app, l, List.cons_append, l_app r s]
  | lt _ _ r, s => by simp only [app, l, List.cons_append, l_app r s]
  | tell _ r, s => by simp only [app, l, List.cons_append, l_app r s]
  | whn _ _ _ r, s => by simp only [app, l, List.cons_append, l_app r s]
  | tms _ _ r, s => by simp only [app, l, List.cons_append, l_app r s]
theorem nf_app : ∀ (r s : Rws) (k : List Str), (r.app s).nf k = s.nf (r.nf k)
  | nil, _, _ => rfl
  | thr _ _ r, s, k => by simp only [app, nf, nf_app r s]
  | lt _ _ r, s, k => by simp only [app, nf, nf_app r s]
  | tell _ r, s, k => by simp only [app, nf, nf_app r s]
  | whn _ _ _ r, s, k => by simp only [app, nf, nf_app r s]
  | tms _ _ r, s, k => by simp only [app, nf, nf_app r s]
theorem tells_app : ∀ r s : Rws, (r.app s).tells = r.tells + s.tells
  | nil, s => by simp only [app, tells]; omega
  | thr _ _ r, s => by simp only [app, tells, tells_app r s]
  | lt _ _ r, s => by simp only [app, tells, tells_app r s]
  | tell _ r, s => by simp only [app, tells, tells_app r s]; omega
  | whn _ _ _ r, s => by simp only [app, tells, tells_app r s]; omega
  | tms _ _ r, s => by simp only [app, tells, tells_app r s]; omega
theorem nest_app : ∀ r s : Rws, (r.app s).nest = max r.nest s.nest
  | nil, s => by simp only [app, nest]; omega
  | thr _ _ r, s => by simp only [app, nest, nest_app r s]
  | lt _ _ r, s => by simp only [app, nest, nest_app r s]
  | tell _ r, s => by simp only [app, nest, nest_app r s]
  | whn _ _ _ r, s => by simp only [app, nest, nest_app r s]; omega
  | tms _ _ r, s => by simp only [app, nest, nest_app r s]; omega
theorem size_app : ∀ r s : Rws, (r.app s).size = r.size + s.size
  | nil, s => by simp only [app, size]; omega
  | thr _ _ r, s => by simp only [app, size, size_app r s]; omega
  | lt _ _ r, s => by simp only [app, size, size_app r s]; omega
  | tell _ r, s => by simp only [app, size, size_app r s]; omega
  | whn _ _ _ r, s => by simp only [app, size, size_app r s]; omega
  | tms _ _ r, s => by simp only [app, size, size_app r s]; omega
theorem ok_app {m : Int} : ∀ (r s : Rws) (k : List Str), r.Ok m k → s.Ok m (r.nf k) → (r.app s).Ok m k
  | nil, _, _, _, h => h
  | thr _ _ r, s, k, h, h' => ⟨h.1, h.2.1, ok_app r s _ h.2.2 h'⟩
  | lt _ _ r, s, k, h, h' => ⟨h.1, h.2.1, ok_app r s _ h.2.2 h'⟩
  | tell _ r, s, k, h, h' => ⟨h.1, ok_app r s _ h.2 h'⟩
  | whn _ _ _ r, s, k, h, h' => ⟨h.1, h.2.1, h.2.2.1, h.2.2.2.1, ok_app r s _ h.2.2.2.2 h'⟩
  | tms _ _ r, s, k, h, h' => ⟨h.1, h.2.1, h.2.2.1, ok_app r s _ h.2.2.2 h'⟩
theorem tells0 {m : Int} : ∀ (r : Rws) (k : List Str), r.Ok m k → 0 ≤ r.tells
  | nil, _, _ => Int.le_refl _
  | thr _ _ r, _, h => tells0 r _ h.2.2
  | lt _ _ r, _, h => tells0 r _ h.2.2
  | tell _ r, _, h => by have := tells0 r _ h.2; show 0 ≤ 1 + r.tells; omega
  | whn _ a _ r, _, h => by have := tells0 r _ h.2.2.2.2; have := tells0 a _ h.2.1; show 0 ≤ a.tells + r.tells; omega
  | tms n a r, _, h => by
    have h1 := tells0 r _ h.2.2.2
    have h2 := tells0 a _ h.2.2.1
    have h3 : 0 ≤ n * a.tells := Int.mul_nonneg (by have := h.1; omega) h2
    show 0 ≤ n * a.tells + r.tells
    omega
theorem len_l : ∀ r : Rws, r.l.length ≤ r.size
  | nil => Nat.le_refl _
  | thr _ _ r => by have := len_l r; simp only [l, size, List.length_cons]; omega
  | lt _ _ r => by have := len_l r; simp only [l, size, List.length_cons]; omega
  | tell _ r => by have := len_l r; simp only [l, size, List.length_cons]; omega
  | whn _ _ _ r => by have := len_l r; simp only [l, size, List.length_cons]; omega
  | tms _ _ r => by have := len_l r; simp only [l, size, List.length_cons]; omega
theorem nf_ok {m : Int} : ∀ (r : Rws) (k : List Str), r.Ok m k → (∀ x ∈ k, NmOk x) → ∀ x ∈ r.nf k, NmOk x
  | nil, _, _, hk => hk
  | thr x _ r, k, h, hk => nf_ok r _ h.2.2 fun y hy => by
    rcases List.mem_append.mp hy with hy | hy
    · exact hk y hy
    · rw [List.mem_singleton.mp hy]; exact h.1
  | lt x _ r, k, h, hk => nf_ok r _ h.2.2 fun y hy => by
    rcases List.mem_append.mp hy with hy | hy
    · exact hk y hy
    · rw [List.mem_singleton.mp hy]; exact h.1
  | tell _ r, k, h, hk => nf_ok r _ h.2 hk
  | whn _ a b r, k, h, hk => nf_ok r _ h.2.2.2.2 fun y hy => nf_ok a k h.2.1 hk y (List.mem_filter.mp hy).1
  | tms _ a r, k, h, hk => nf_ok r _ h.2.2.2 (nf_ok a k h.2.2.1 hk)
end Rws
def sceneK (m : Int) (nr : Addr) (lf : Int) : List (Key × D) := [(.inr "many", .int m), (.inr "names", .ref nr), (.inr "left", .int lf)]
theorem scene_many {m lf : Int} {nr : Addr} : lookD (sceneK m nr lf) (.inr "many") = some (.int m) := by kernel_rfl
theorem scene_names {m lf : Int} {nr : Addr} : lookD (sceneK m nr lf) (.inr "names") = some (.ref nr) := by kernel_rfl
theorem scene_left {m lf : Int} {nr : Addr} : lookD (sceneK m nr lf) (.inr "left") = some (.int lf) := by kernel_rfl
theorem scene_put {m lf i : Int} {nr : Addr} : putD (sceneK m nr lf) (.inr "left") (.int i) = sceneK m nr i := by kernel_rfl
theorem scene_len {m lf : Int} {nr : Addr} : (sceneK m nr lf).length < sizeLine := by show 3 < sizeLine; decide
structure Scene (a l c nr : Addr) (m : Int) (ws : List Str) (S : Sto) : Prop where
  dl : Deal a l S
  sc : ∃ lf : Int, S c = some (.dk (sceneK m nr lf))
  nm : S nr = some (.lst (ws.map D.str))
  nc : c ∉ [a, l]
  nn : nr ∉ [a, l, c]
  m0 : 0 ≤ m
  m9 : m ≤ 9
  w0 : 0 < ws.length
  w9 : ws.length ≤ 9
  wk : ∀ w ∈ ws, NmOk w
theorem k23 {a l c : Addr} : ∀ b ∈ [a, l], b ∈ [a, l, c] := fun b hb => by
  rcases List.mem_cons.mp hb with rfl | hb
  · exact List.mem_cons_self
  · exact List.mem_cons_of_mem _ (by rw [List.mem_singleton.mp hb]; exact List.mem_cons_self)
theorem n23 {a l c b : Addr} (h : b ∉ [a, l, c]) : b ∉ [a, l] := fun x => h (k23 b x)
theorem c3 {a l c : Addr} : c ∈ [a, l, c] := List.mem_cons_of_mem _ (List.mem_cons_of_mem _ List.mem_cons_self)
section
variable {a l c nr : Addr} {m : Int} {ws : List Str} {S S' : Sto}
theorem Scene.to (h : Scene a l c nr m ws S) (d : Deal a l S') (k : Keep [a, l] S S') : Scene a l c nr m ws S' := by
  obtain ⟨lf, e⟩ := h.sc
  exact { h with dl := d, sc := ⟨lf, k _ _ h.nc e⟩, nm := k _ _ (n23 h.nn) h.nm }
theorem Scene.new {p : Addr} {o : Ob} (h : Scene a l c nr m ws S) (hp : S p = none) : Scene a l c nr m ws (su S p o) := h.to (h.dl.new hp) (Keep.new hp)
theorem Scene.acc {p : Addr} {o : Ob} (h : Scene a l c nr m ws S) (np : p ∉ [a, l, c]) (nr' : p ≠ nr) : Scene a l c nr m ws (su S p o) := by
  obtain ⟨lf, e⟩ := h.sc
  have h1 : a ≠ p := fun x => np (by rw [← x]; exact List.mem_cons_self)
  have h2 : l ≠ p := fun x => np (by rw [← x]; exact List.mem_cons_of_mem _ List.mem_cons_self)
  have h3 : c ≠ p := fun x => np (by rw [← x]; exact c3)
  exact { h with dl := h.dl.acc ⟨h1, h2⟩, sc := ⟨lf, by rw [su_ne h3]; exact e⟩, nm := by rw [su_ne (Ne.symm nr')]; exact h.nm }
theorem Scene.fresh {p : Addr} (h : Scene a l c nr m ws S) (hp : S p = none) : p ∉ [a, l, c] ∧ p ≠ nr := by
  obtain ⟨lf, e⟩ := h.sc
  refine ⟨fun x => ?_, (sne h.nm hp).symm⟩
  have np := h.dl.nea hp
  rcases List.mem_cons.mp x with rfl | x
  · exact np.1 rfl
  rcases List.mem_cons.mp x with rfl | x
  · exact np.2 rfl
  · exact sne e hp (List.mem_singleton.mp x).symm
/-- the rows still due, changed -/
theorem Scene.put {lf : Int} (h : Scene a l c nr m ws S) : Scene a l c nr m ws (su S c (.dk (sceneK m nr lf))) := by
  have h1 : a ≠ c := fun x => h.nc (by rw [← x]; exact List.mem_cons_self)
  have h2 : l ≠ c := fun x => h.nc (by rw [← x]; exact List.mem_cons_of_mem _ List.mem_cons_self)
  have h3 : nr ≠ c := fun x => h.nn (by rw [x]; exact c3)
  exact { h with dl := h.dl.acc ⟨h1, h2⟩, sc := ⟨lf, su_same⟩, nm := by rw [su_ne h3]; exact h.nm }
end
/-- a row that sets a name -/
def RowSet (m : Int) (x : Str) (ks : List Str) (d : D) (one : Rws) : Prop := one.l = [d] ∧ (NmOk x → one.Ok m ks) ∧ one.nf ks = ks ++ [x] ∧ one.tells = 0 ∧ one.nest = 0 ∧ one.size = 1
def SettingFn (Φ : Call) : Prop := ∀ (a l c nr kn : Addr) (m : Int) (ws ks : List Str) (x : Str) (S : Sto) (Q : QD) (X : XD), Scene a l c nr m ws S → S kn = some (.lst (ks.map D.str)) → kn ∉ [a, l, c] → ks.length < 2 ^ 60 →
  (∀ d one S', RowSet m x ks d one → Scene a l c nr m ws S' → Keep [a, l, c] S S' → Q d S') → Φ 1108 [.ref a, .ref c, .ref kn, .str x] S Q X
theorem setting_ok {G : GT} {Φ : Call} (hd : DrawOk Φ) (hth : ThrowFn Φ) (htm : TermFn 6 Φ) {a l c nr kn : Addr} {m : Int} {ws ks : List Str} {x : Str} {S : Sto} {Q : QD} {X : XD} (h : Scene a l c nr m ws S) (ek : S kn = some (.lst (ks.map D.str))) (nk : kn ∉ [a, l, c]) (hks : ks.length < 2 ^ 60)
    (k : ∀ d one S', RowSet m x ks d one → Scene a l c nr m ws S' → Keep [a, l, c] S S' → Q d S') : wc G Φ l_setting_a142.body (endsD Q X) (startD 4 [.ref a, .ref c, .ref kn, .str x]) S := by
  unfold l_setting_a142
  show wc G Φ _ (endsD Q X) [some (D.ref a), some (D.ref c), some (D.ref kn), some (D.str x)] S
  obtain ⟨lf, ec⟩ := h.sc
  refine wc_sq ?_; try simp only [DL.wcs, DL.wp, DL.ds, DL.dl, List.set, if_true, if_false, reduceCtorEq, Bool.false_eq_true, eq_self, DL.sz, true_and, DL.tp2, DL.prs, DL.isr, Bool.not_true, Bool.not_false]
  refine idx_dk ec rfl scene_left ?_
  try simp only [DL.wcs, DL.wp, DL.ds, DL.dl, List.set, if_true, if_false, reduceCtorEq, Bool.false_eq_true, eq_self, DL.sz, true_and, DL.tp2, DL.prs, DL.isr, Bool.not_true, Bool.not_false]
  refine set_dk ec rfl scene_len ?_
  rw [scene_put]
  have h1 := h.put (lf := lf - 1)
  have K1 : Keep [a, l, c] S (su S c (.dk (sceneK m nr (lf - 1)))) := Keep.at c3
  have e1 : su S c (.dk (sceneK m nr (lf - 1))) c = some (.dk (sceneK m nr (lf - 1))) := su_same
  generalize su S c (.dk (sceneK m nr (lf - 1))) = S1 at h1 K1 e1
  have ek1 : S1 kn = some (.lst (ks.map D.str)) := K1 _ _ nk ek |> fun z => z
  refine wc_sq ?_; try simp only [DL.wcs, DL.wp, DL.ds, DL.dl, List.set, if_true, if_false, reduceCtorEq, Bool.false_eq_true, eq_self, DL.sz, true_and, DL.tp2, DL.prs, DL.isr, Bool.not_true, Bool.not_false]
  refine hd a l 5 _ _ _ h1.dl (by decide) (by decide) fun r S2 r0 r1 D2 K2 => ?_
  have h2 := h1.to D2 K2
  try simp only [DL.wcs, DL.wp, DL.ds, DL.dl, List.set, if_true, if_false, reduceCtorEq, Bool.false_eq_true, eq_self, DL.sz, true_and, DL.tp2, DL.prs, DL.isr, Bool.not_true, Bool.not_false, decide_eq_true_eq]
  by_cases h0 : r < 3
  · rw [if_pos h0]
    refine wc_sq ?_; try simp only [DL.wcs, DL.wp, DL.ds, DL.dl, List.set, if_true, if_false, reduceCtorEq, Bool.false_eq_true, eq_self, DL.sz, true_and, DL.tp2, DL.prs, DL.isr, Bool.not_true, Bool.not_false]
    refine idx_dk (K2 _ _ h1.nc e1) rfl scene_many ?_
    refine hth a l m x _ _ _ D2 h.m0 h.m9 fun t S3 ok D3 K3 => ?_
    exact k _ (.thr x t .nil) S3 ⟨rfl, fun hx => ⟨hx, ok, trivial⟩, rfl, rfl, rfl, rfl⟩ (h2.to D3 K3) ((K1.trans (K2.wide k23)).trans (K3.wide k23))
  · rw [if_neg h0]
    refine wc_sq ?_; try simp only [DL.wcs, DL.wp, DL.ds, DL.dl, List.set, if_true, if_false, reduceCtorEq, Bool.false_eq_true, eq_self, DL.sz, true_and, DL.tp2, DL.prs, DL.isr, Bool.not_true, Bool.not_false]
    refine hd a l 12 _ _ _ D2 (by decide) (by decide) fun r S3 r0 r1 D3 K3 => ?_
    try simp only [DL.wcs, DL.wp, DL.ds, DL.dl, List.set, if_true, if_false, reduceCtorEq, Bool.false_eq_true, eq_self, DL.sz, true_and, DL.tp2, DL.prs, DL.isr, Bool.not_true, Bool.not_false]
    refine htm a l kn ks _ 6 _ _ _ (by decide) D3 (K3 _ _ (n23 nk) (K2 _ _ (n23 nk) ek1)) (n23 nk) (by omega) hks fun t S4 g n dp D4 K4 => ?_
    try simp only [DL.wcs, DL.wp, DL.ds, DL.dl, List.set, if_true, if_false, reduceCtorEq, Bool.false_eq_true, eq_self, DL.sz, true_and, DL.tp2, DL.prs, DL.isr, Bool.not_true, Bool.not_false]
    exact k _ (.lt x t .nil) S4 ⟨rfl, fun hx => ⟨hx, ⟨g, n, dp⟩, trivial⟩, rfl, rfl, rfl, rfl⟩ ((h2.to D3 K3).to D4 K4) (((K1.trans (K2.wide k23)).trans (K3.wide k23)).trans (K4.wide k23))
/-! ### how many rows, how many names -/
def nd : Nat → Nat | 0 => 8 | 1 => 5 | _ => 3
def gS : Nat → Nat | 0 => 999 | 1 => 99 | 2 => 15 | _ => 1
def gB : Nat → Nat | 0 => 45 | 1 => 9 | 2 => 3 | _ => 1
def szB (d : Nat) : Nat := nd d * gS d + 4
def knB (d : Nat) : Nat := nd d * gB d
theorem gS_step : ∀ d, d < 3 → 1 + 2 * szB (d + 1) ≤ gS d
  | 0, _ => by decide
  | 1, _ => by decide
  | 2, _ => by decide
theorem gB_step : ∀ d, d < 3 → knB (d + 1) ≤ gB d
  | 0, _ => by decide
  | 1, _ => by decide
  | 2, _ => by decide
theorem gS_pos : ∀ d, 1 ≤ gS d
  | 0 => by decide
  | 1 => by decide
  | 2 => by decide
  | _ + 3 => by show 1 ≤ 1; decide
theorem gB_pos : ∀ d, 1 ≤ gB d
  | 0 => by decide
  | 1 => by decide
  | 2 => by decide
  | _ + 3 => by show 1 ≤ 1; decide
theorem szB_le : ∀ d, szB d ≤ 8000
  | 0 => by decide
  | 1 => by decide
  | 2 => by decide
  | _ + 3 => by show 3 * 1 + 4 ≤ 8000; decide
theorem knB_le : ∀ d, knB d ≤ 360
  | 0 => by decide
  | 1 => by decide
  | 2 => by decide
  | _ + 3 => by show 3 * 1 ≤ 360; decide
theorem nd_le : ∀ d, 0 < nd d ∧ nd d ≤ 8
  | 0 => by decide
  | 1 => by decide
  | 2 => by decide
  | _ + 3 => by show 0 < 3 ∧ 3 ≤ 8; decide
theorem nd_at : ∀ d, d ≤ 3 → atI [D.int 8, D.int 5, D.int 3, D.int 3] ((d : Nat) : Int) = some (.int (nd d : Nat))
  | 0, _ => rfl
  | 1, _ => rfl
  | 2, _ => rfl
  | 3, _ => rfl
structure Pre (a l c nr kn : Addr) (m : Int) (ws ks : List Str) (tl : Int) (S : Sto) : Prop where
  sc : Scene a l c nr m ws S
  ek : S kn = some (.lst (ks.map D.str))
  nk : kn ∉ [a, l, c]
  kk : ∀ x ∈ ks, NmOk x
  t0 : 0 ≤ tl
  t4 : tl ≤ 4
def BlockFn (d : Nat) (Φ : Call) : Prop := ∀ (a l c nr kn : Addr) (m : Int) (ws ks : List Str) (tl : Int) (S : Sto) (Q : QD) (X : XD), Pre a l c nr kn m ws ks tl S → ks.length ≤ 1000 * (d + 1) →
  (∀ (r : Rws) kn' S', r.Ok m ks → r.tells = tl → r.nest ≤ 3 - d → r.size ≤ szB d → (r.nf ks).length ≤ ks.length + knB d → S' kn' = some (.lst ((r.nf ks).map D.str)) → kn' ∉ [a, l, c] → (kn' = kn ∨ S kn' = none) → Scene a l c nr m ws S' → Keep [a, l, c] S S' →
    Q (.tup [.tup r.l, .ref kn']) S') → Φ 1012 [.ref a, .ref c, .ref kn, .int tl, .int (d : Nat)] S Q X
def WhenFn (d : Nat) (Φ : Call) : Prop := ∀ (a l c nr kn : Addr) (m : Int) (ws ks : List Str) (tl : Int) (S : Sto) (Q : QD) (X : XD), Pre a l c nr kn m ws ks tl S → ks.length ≤ 1000 * (d + 2) →
  (∀ (t : Tm) (ra rb : Rws) kn' S', TOk t ks → ra.Ok m ks → rb.Ok m ks → ra.tells = tl → rb.tells = tl → ra.nest ≤ 2 - d → rb.nest ≤ 2 - d → ra.size ≤ szB (d + 1) → rb.size ≤ szB (d + 1) →
    ((ra.nf ks).filter fun x => decide (x ∈ rb.nf ks)).length ≤ ks.length + knB (d + 1) →
    S' kn' = some (.lst (((ra.nf ks).filter fun x => decide (x ∈ rb.nf ks)).map D.str)) → kn' ∉ [a, l, c] → S kn' = none → Scene a l c nr m ws S' → Keep [a, l, c] S S' →
    Q (.tup [.tup [.str "when", t.d, .tup ra.l, .tup rb.l], .ref kn']) S') → Φ 1138 [.ref a, .ref c, .ref kn, .int tl, .int (d : Nat)] S Q X
theorem when_ok {G : GT} {Φ : Call} {d : Nat} (hd : DrawOk Φ) (htm : TermFn 6 Φ) (hb : BlockFn (d + 1) Φ) (h3 : d < 3) {a l c nr kn : Addr} {m : Int} {ws ks : List Str} {tl : Int} {S : Sto} {Q : QD} {X : XD} (p : Pre a l c nr kn m ws ks tl S) (hks : ks.length ≤ 1000 * (d + 2))
    (k : ∀ (t : Tm) (ra rb : Rws) kn' S', TOk t ks → ra.Ok m ks → rb.Ok m ks → ra.tells = tl → rb.tells = tl → ra.nest ≤ 2 - d → rb.nest ≤ 2 - d → ra.size ≤ szB (d + 1) → rb.size ≤ szB (d + 1) →
      ((ra.nf ks).filter fun x => decide (x ∈ rb.nf ks)).length ≤ ks.length + knB (d + 1) →
      S' kn' = some (.lst (((ra.nf ks).filter fun x => decide (x ∈ rb.nf ks)).map D.str)) → kn' ∉ [a, l, c] → S kn' = none → Scene a l c nr m ws S' → Keep [a, l, c] S S' →
      Q (.tup [.tup [.str "when", t.d, .tup ra.l, .tup rb.l], .ref kn']) S') : wc G Φ l_when_2570.body (endsD Q X) (startD 11 [.ref a, .ref c, .ref kn, .int tl, .int (d : Nat)]) S := by
  unfold l_when_2570
  show wc G Φ _ (endsD Q X) [some (D.ref a), some (D.ref c), some (D.ref kn), some (D.int tl), some (D.int (d : Nat)), none, none, none, none, none, none] S
  obtain ⟨h, ek, nk, kk, t0, t4⟩ := p
  obtain ⟨lf, ec⟩ := h.sc
  have ed : ((d : Nat) : Int) + 1 = ((d + 1 : Nat) : Int) := by omega
  refine wc_sq ?_; try simp only [DL.wcs, DL.wp, DL.ds, DL.dl, List.set, if_true, if_false, reduceCtorEq, Bool.false_eq_true, eq_self, DL.sz, true_and, DL.tp2, DL.prs, DL.isr, Bool.not_true, Bool.not_false]
  refine idx_dk ec rfl scene_left ?_
  try simp only [DL.wcs, DL.wp, DL.ds, DL.dl, List.set, if_true, if_false, reduceCtorEq, Bool.false_eq_true, eq_self, DL.sz, true_and, DL.tp2, DL.prs, DL.isr, Bool.not_true, Bool.not_false]
  refine set_dk ec rfl scene_len ?_
  rw [scene_put]
  have h1 := h.put (lf := lf - 1 - tl)
  have K1 : Keep [a, l, c] S (su S c (.dk (sceneK m nr (lf - 1 - tl)))) := Keep.at c3
  generalize su S c (.dk (sceneK m nr (lf - 1 - tl))) = S1 at h1 K1
  have ek1 := K1 _ _ nk ek
  refine wc_sq ?_; try simp only [DL.wcs, DL.wp, DL.ds, DL.dl, List.set, if_true, if_false, reduceCtorEq, Bool.false_eq_true, eq_self, DL.sz, true_and, DL.tp2, DL.prs, DL.isr, Bool.not_true, Bool.not_false]
  refine hd a l 5 _ _ _ h1.dl (by decide) (by decide) fun r S2 r0 r1 D2 K2 => ?_
  have h2 := h1.to D2 K2
  have K12 := K1.trans (K2.wide k23)
  try simp only [DL.wcs, DL.wp, DL.ds, DL.dl, List.set, if_true, if_false, reduceCtorEq, Bool.false_eq_true, eq_self, DL.sz, true_and, DL.tp2, DL.prs, DL.isr, Bool.not_true, Bool.not_false]
  refine htm a l kn ks _ 3 _ _ _ (by decide) D2 (K12 _ _ nk ek) (n23 nk) (by omega) (by omega) fun t S3 g n dp D3 K3 => ?_
  have h3' := h2.to D3 K3
  have K13 := K12.trans (K3.wide k23)
  refine wc_sq ?_; try simp only [DL.wcs, DL.wp, DL.ds, DL.dl, List.set, if_true, if_false, reduceCtorEq, Bool.false_eq_true, eq_self, DL.sz, true_and, DL.tp2, DL.prs, DL.isr, Bool.not_true, Bool.not_false]
  rw [ed]
  refine hb a l c nr kn m ws ks tl S3 _ _ ⟨h3', K13 _ _ nk ek, nk, kk, t0, t4⟩ hks fun ra kna S4 oa ta na sa la ea nka _ h4 K4 => ?_
  have K14 := K13.trans K4
  try simp only [DL.wcs, DL.wp, DL.ds, DL.dl, List.set, if_true, if_false, reduceCtorEq, Bool.false_eq_true, eq_self, DL.sz, true_and, DL.tp2, DL.prs, DL.isr, Bool.not_true, Bool.not_false]
  refine wc_sq ?_; try simp only [DL.wcs, DL.wp, DL.ds, DL.dl, List.set, if_true, if_false, reduceCtorEq, Bool.false_eq_true, eq_self, DL.sz, true_and, DL.tp2, DL.prs, DL.isr, Bool.not_true, Bool.not_false]
  rw [ed]
  refine hb a l c nr kn m ws ks tl S4 _ _ ⟨h4, K14 _ _ nk ek, nk, kk, t0, t4⟩ hks fun rb knb S5 ob tb nb sb lb eb nkb _ h5 K5 => ?_
  have K15 := K14.trans K5
  have ea5 := K5 _ _ nka ea
  try simp only [DL.wcs, DL.wp, DL.ds, DL.dl, List.set, if_true, if_false, reduceCtorEq, Bool.false_eq_true, eq_self, DL.sz, true_and, DL.tp2, DL.prs, DL.isr, Bool.not_true, Bool.not_false]
  refine wc_sq ?_; try simp only [DL.wcs, DL.wp, DL.ds, DL.dl, List.set, if_true, if_false, reduceCtorEq, Bool.false_eq_true, eq_self, DL.sz, true_and, DL.tp2, DL.prs, DL.isr, Bool.not_true, Bool.not_false]
  refine ⟨_, lstOf_of ea5, fun q hq => ?_⟩
  have fq := h5.fresh hq
  have nqa : kna ≠ q := sne ea5 hq
  have nqb : knb ≠ q := sne eb hq
  refine lc_inv (fun i acc S' => Scene a l c nr m ws S' ∧ Keep [a, l, c] S5 S' ∧ S' q = some (.lst acc) ∧ S' kna = some (.lst ((ra.nf ks).map D.str)) ∧ S' knb = some (.lst ((rb.nf ks).map D.str)) ∧ acc = (((ra.nf ks).take i).filter fun x => decide (x ∈ rb.nf ks)).map D.str)
    ⟨h5.new hq, Keep.new hq, su_same, by rw [su_ne nqa]; exact ea5, by rw [su_ne nqb]; exact eb, rfl⟩ (fun i acc S' hI => lstOf_of hI.2.2.2.1) ?_ ?_
  · rintro i x acc S6 N hx ⟨h6, K6, e6, ea6, eb6, rfl⟩ hN
    obtain ⟨w, hw, rfl⟩ : ∃ w, (ra.nf ks)[i]? = some w ∧ D.str w = x := by
      rw [List.getElem?_map] at hx
      cases e : (ra.nf ks)[i]? with
      | none => rw [e] at hx; cases hx
      | some w => rw [e] at hx; exact ⟨w, rfl, Option.some.inj hx⟩
    have tk : (ra.nf ks).take (i + 1) = (ra.nf ks).take i ++ [w] := by rw [List.take_add_one, hw]; rfl
    try simp only [DL.wcs, DL.wp, DL.ds, DL.dl, List.set, if_true, if_false, reduceCtorEq, Bool.false_eq_true, eq_self, DL.sz, true_and, DL.tp2, DL.prs, DL.isr, Bool.not_true, Bool.not_false]
    refine in_strs eb6 ?_
    try simp only [DL.wcs, DL.wp, DL.ds, DL.dl, List.set, if_true, if_false, reduceCtorEq, Bool.false_eq_true, eq_self, DL.sz, true_and, DL.tp2, DL.prs, DL.isr, Bool.not_true, Bool.not_false, decide_eq_true_eq]
    by_cases hm : w ∈ rb.nf ks
    · rw [if_pos hm]
      have len : ((((ra.nf ks).take i).filter fun x => decide (x ∈ rb.nf ks)).map D.str).length < sizeLine := by
        rw [List.length_map]
        have l1 := List.length_filter_le (fun x => decide (x ∈ rb.nf ks)) ((ra.nf ks).take i)
        have l2 : ((ra.nf ks).take i).length ≤ (ra.nf ks).length := by rw [List.length_take]; omega
        have := knB_le (d + 1)
        have : 10000 < sizeLine := by decide
        omega
      refine ⟨_, lstOf_of e6, len, hN ((((ra.nf ks).take i).filter fun x => decide (x ∈ rb.nf ks)).map D.str ++ [D.str w]) _ ⟨h6.acc fq.1 fq.2, keep_acc K6 hq Keep.refl, su_same, by rw [su_ne nqa]; exact ea6, by rw [su_ne nqb]; exact eb6, ?_⟩⟩
      rw [tk, List.filter_append, List.map_append]
      simp [hm]
    · rw [if_neg hm]
      refine hN ((((ra.nf ks).take i).filter fun x => decide (x ∈ rb.nf ks)).map D.str) _ ⟨h6, K6, e6, ea6, eb6, ?_⟩
      rw [tk, List.filter_append, List.map_append]
      simp [hm]
  · rintro acc S6 ⟨h6, K6, e6, _, _, rfl⟩
    rw [List.length_map, List.take_length] at e6
    try simp only [DL.wcs, DL.wp, DL.ds, DL.dl, List.set, if_true, if_false, reduceCtorEq, Bool.false_eq_true, eq_self, DL.sz, true_and, DL.tp2, DL.prs, DL.isr, Bool.not_true, Bool.not_false]
    refine k t ra rb q S6 ⟨g, n, by omega⟩ oa ob ta tb (by omega) (by omega) sa sb ?_ e6 fq.1 (K15.none_of hq fq.1) h6 (K15.trans K6)
    have l1 := List.length_filter_le (fun x => decide (x ∈ rb.nf ks)) (ra.nf ks)
    omega
/-- a block's turn -/
structure BI (a l c nr p kn0 : Addr) (m : Int) (ws ks : List Str) (tl0 : Int) (d : Nat) (S : Sto) (i : Nat) (kn : Addr) (tl : Int) (r : Rws) (S' : Sto) : Prop where
  sc : Scene a l c nr m ws S'
  kp : Keep [a, l, c] S S'
  ek : S' kn = some (.lst ((r.nf ks).map D.str))
  nk : kn ∉ [a, l, c]
  np : kn ≠ p
  fr : kn = kn0 ∨ S kn = none
  ep : S' p = some (.lst r.l)
  ok : r.Ok m ks
  te : r.tells + tl = tl0
  t0 : 0 ≤ tl
  ne : r.nest ≤ 3 - d
  sz : r.size ≤ i * gS d
  kl : (r.nf ks).length ≤ ks.length + i * gB d
section
variable {a l c nr p kn kn0 : Addr} {m : Int} {ws ks : List Str} {tl0 tl : Int} {d i : Nat} {S S' : Sto} {r : Rws}
theorem BI.to (h : BI a l c nr p kn0 m ws ks tl0 d S i kn tl r S') (np : p ∉ [a, l, c]) {S'' : Sto} (sc : Scene a l c nr m ws S'') (k : Keep [a, l, c] S' S'') : BI a l c nr p kn0 m ws ks tl0 d S i kn tl r S'' :=
  { h with sc := sc, kp := h.kp.trans k, ek := k _ _ h.nk h.ek, ep := k _ _ np h.ep }
theorem BI.pre (h : BI a l c nr p kn0 m ws ks tl0 d S i kn tl r S') (hk : ∀ x ∈ ks, NmOk x) {t : Int} (t0 : 0 ≤ t) (t4 : t ≤ 4) : Pre a l c nr kn m ws (r.nf ks) t S' := ⟨h.sc, h.ek, h.nk, Rws.nf_ok r ks h.ok hk, t0, t4⟩
/-- one row more -/
theorem BI.more (h : BI a l c nr p kn0 m ws ks tl0 d S i kn tl r S') (hp : S p = none) (npm : p ∉ [a, l, c]) (npr : p ≠ nr) {row : D} {one : Rws} {kn' : Addr} {tl' : Int} (ol : one.l = [row]) (ok : one.Ok m (r.nf ks)) (ek : S' kn' = some (.lst ((one.nf (r.nf ks)).map D.str))) (nk : kn' ∉ [a, l, c]) (nkp : kn' ≠ p) (fr : kn' = kn0 ∨ S kn' = none)
    (ht : one.tells + tl' = tl) (ht0 : 0 ≤ tl') (hn : one.nest ≤ 3 - d) (hs : one.size ≤ gS d) (hl : (one.nf (r.nf ks)).length ≤ (r.nf ks).length + gB d) : BI a l c nr p kn0 m ws ks tl0 d S (i + 1) kn' tl' (r.app one) (su S' p (.lst (r.l ++ [row]))) where
  sc := h.sc.acc npm npr
  kp := keep_acc h.kp hp Keep.refl
  ek := by rw [su_ne nkp, Rws.nf_app]; exact ek
  nk := nk
  np := nkp
  fr := fr
  ep := by rw [su_same, Rws.l_app, ol]
  ok := Rws.ok_app r one ks h.ok ok
  te := by rw [Rws.tells_app]; have := h.te; omega
  t0 := ht0
  ne := by rw [Rws.nest_app]; have := h.ne; omega
  sz := by rw [Rws.size_app, Nat.succ_mul]; have := h.sz; omega
  kl := by rw [Rws.nf_app, Nat.succ_mul]; have := h.kl; omega
theorem BI.wide (h : BI a l c nr p kn0 m ws ks tl0 d S i kn tl r S') : BI a l c nr p kn0 m ws ks tl0 d S (i + 1) kn tl r S' :=
  { h with sz := by rw [Nat.succ_mul]; have := h.sz; omega
           kl := by rw [Nat.succ_mul]; have := h.kl; omega }
theorem BI.small (h : BI a l c nr p kn0 m ws ks tl0 d S i kn tl r S') (hi : i ≤ nd d) : r.size ≤ nd d * gS d ∧ r.l.length < sizeLine ∧ (r.nf ks).length ≤ ks.length + knB d := by
  have h1 : i * gS d ≤ nd d * gS d := Nat.mul_le_mul_right _ hi
  have h2 : i * gB d ≤ nd d * gB d := Nat.mul_le_mul_right _ hi
  have h3 := h.sz
  have h4 := h.kl
  have h5 := szB_le d
  have h6 := Rws.len_l r
  have h7 : 10000 < sizeLine := by decide
  unfold szB at h5
  exact ⟨by omega, by omega, by unfold knB; omega⟩
end
theorem ite2 {p q : Prop} [Decidable p] [Decidable q] {A B : Prop} (ha : p → q → A) (hb : B) : if p then (if q then A else B) else B := by
  split
  · split
    · exact ha ‹_› ‹_›
    · exact hb
  · exact hb
theorem elif1 {p : Prop} [Decidable p] {c : Addr} {kvs : List (Key × D)} {x : Str} {lf j : Int} {S : Sto} {A B : Sto → Prop} (e : S c = some (.dk kvs)) (hl : lookD kvs (.inr x) = some (.int lf)) (ha : p → j < lf → A S) (hb : B S) :
    if p then idxD (.ref c) (.str x) S (fun d S1 => cmpD .Gt d (.int j) S1 fun k => if k = true then A S1 else B S1) else B S := by
  split
  · refine idx_dk e rfl hl ?_
    show if decide (j < lf) = true then A S else B S
    split
    · exact ha ‹_› (of_decide_eq_true ‹_›)
    · exact hb
  · exact hb
theorem elif2 {p q : Prop} [Decidable p] [Decidable q] {c : Addr} {kvs : List (Key × D)} {x : Str} {lf j : Int} {S : Sto} {A B : Sto → Prop} (e : S c = some (.dk kvs)) (hl : lookD kvs (.inr x) = some (.int lf)) (ha : p → q → j < lf → A S) (hb : B S) :
    if p then (if q then idxD (.ref c) (.str x) S (fun d S1 => cmpD .Gt d (.int j) S1 fun k => if k = true then A S1 else B S1) else B S) else B S := by
  split
  · exact elif1 e hl (ha ‹_›) hb
  · exact hb
abbrev bEnv (a c kn : Addr) (tl : Int) (d : Nat) (p : Addr) (o6 o7 o8 o9 o10 o11 : Option D) : En := [some (.ref a), some (.ref c), some (.ref kn), some (.int tl), some (.int (d : Nat)), some (.ref p), o6, o7, o8, o9, o10, o11]
theorem block_ok {G : GT} {Φ : Call} {d : Nat} (hd : DrawOk Φ) (htm : TermFn 6 Φ) (hset : SettingFn Φ) (hw : d < 3 → WhenFn d Φ) (hb : d < 3 → BlockFn (d + 1) Φ) (h3 : d ≤ 3) {a l c nr kn : Addr} {m : Int} {ws ks : List Str} {tl0 : Int} {S : Sto} {Q : QD} {X : XD} (pr : Pre a l c nr kn m ws ks tl0 S) (hks : ks.length ≤ 1000 * (d + 1))
    (k : ∀ (r : Rws) kn' S', r.Ok m ks → r.tells = tl0 → r.nest ≤ 3 - d → r.size ≤ szB d → (r.nf ks).length ≤ ks.length + knB d → S' kn' = some (.lst ((r.nf ks).map D.str)) → kn' ∉ [a, l, c] → (kn' = kn ∨ S kn' = none) → Scene a l c nr m ws S' → Keep [a, l, c] S S' →
      Q (.tup [.tup r.l, .ref kn']) S') : wc G Φ l_block_57fe.body (endsD Q X) (startD 12 [.ref a, .ref c, .ref kn, .int tl0, .int (d : Nat)]) S := by
  unfold l_block_57fe
  show wc G Φ _ (endsD Q X) [some (D.ref a), some (D.ref c), some (D.ref kn), some (D.int tl0), some (D.int (d : Nat)), none, none, none, none, none, none, none] S
  obtain ⟨h, ek, nk, kk, t0, t4⟩ := pr
  have knd := nd_le d
  have kB := knB_le d
  refine wc_sq ?_; try simp only [DL.wcs, DL.wp, DL.ds, DL.dl, List.set, if_true, if_false, reduceCtorEq, Bool.false_eq_true, eq_self, DL.sz, true_and, DL.tp2, DL.prs, DL.isr, Bool.not_true, Bool.not_false]
  intro p hp
  have fp := h.fresh hp
  have h1 : BI a l c nr p kn m ws ks tl0 d S 0 kn tl0 .nil (su S p (.lst [])) :=
    ⟨h.new hp, Keep.new hp, by rw [su_ne (sne ek hp)]; exact ek, nk, sne ek hp, .inl rfl, su_same, trivial, by show (0 : Int) + tl0 = tl0; omega, t0, Nat.zero_le _, Nat.zero_le _, Nat.le_add_right _ _⟩
  generalize su S p (.lst []) = S1 at h1
  refine wc_sq ?_
  try simp only [DL.wcs, DL.wp, DL.ds, DL.dl, List.set, if_true, if_false, reduceCtorEq, Bool.false_eq_true, eq_self, DL.sz, true_and, DL.tp2, DL.prs, DL.isr, Bool.not_true, Bool.not_false]
  intro q hq
  refine idx_lst su_same (nd_at d h3) ?_
  have h2 := h1.to fp.1 (h1.sc.new hq) (Keep.new (o := .lst [D.int 8, D.int 5, D.int 3, D.int 3]) hq)
  refine hd a l (nd d : Nat) _ _ _ h2.sc.dl (by omega) (by omega) fun n S2 n0 n1 D2 K2 => ?_
  have h3' := h2.to fp.1 (h2.sc.to D2 K2) (K2.wide k23)
  try simp only [DL.wcs, DL.wp, DL.ds, DL.dl, List.set, if_true, if_false, reduceCtorEq, Bool.false_eq_true, eq_self, DL.sz, true_and, DL.tp2, DL.prs, DL.isr, Bool.not_true, Bool.not_false]
  refine ⟨by omega, by omega, ?_⟩
  refine for_inv (fun i ρ S' => ∃ kn' tl r o6 o7 o8 o9 o10 o11, ρ = bEnv a c kn' tl d p o6 o7 o8 o9 o10 o11 ∧ BI a l c nr p kn m ws ks tl0 d S i kn' tl r S') ⟨kn, tl0, .nil, none, none, none, none, none, none, rfl, h3'⟩ (fun _ _ _ _ => trivial) ?_ ?_
  · rintro i x ρ S3 N hx ⟨kn1, tl, r, o6, o7, o8, o9, o10, o11, rfl, h4⟩ hN
    have hi : i < nd d := by
      have := (List.getElem?_eq_some_iff.mp hx).1
      simp at this
      omega
    have sm := h4.small (Nat.le_of_lt hi)
    have tl4 : tl ≤ 4 := by
      have := Rws.tells0 r ks h4.ok
      have := h4.te
      omega
    have tl0' := h4.t0
    try simp only [DL.wcs, DL.wp, DL.ds, DL.dl, List.set, if_true, if_false, reduceCtorEq, Bool.false_eq_true, eq_self, DL.sz, true_and, DL.tp2, DL.prs, DL.isr, Bool.not_true, Bool.not_false]
    refine wc_sq ?_; try simp only [DL.wcs, DL.wp, DL.ds, DL.dl, List.set, if_true, if_false, reduceCtorEq, Bool.false_eq_true, eq_self, DL.sz, true_and, DL.tp2, DL.prs, DL.isr, Bool.not_true, Bool.not_false]
    refine hd a l 8 _ _ _ h4.sc.dl (by decide) (by decide) fun f S4 f0 f1 D4 K4 => ?_
    have h5 := h4.to fp.1 (h4.sc.to D4 K4) (K4.wide k23)
    refine wc_sq ?_; try simp only [DL.wcs, DL.wp, DL.ds, DL.dl, List.set, if_true, if_false, reduceCtorEq, Bool.false_eq_true, eq_self, DL.sz, true_and, DL.tp2, DL.prs, DL.isr, Bool.not_true, Bool.not_false]
    refine hd a l _ _ _ _ h5.sc.dl (by omega) (by omega) fun inn S5 i0 i1 D5 K5 => ?_
    have h6 := h5.to fp.1 (h5.sc.to D5 K5) (K5.wide k23)
    refine wc_sq ?_; try simp only [DL.wcs, DL.wp, DL.ds, DL.dl, List.set, if_true, if_false, reduceCtorEq, Bool.false_eq_true, eq_self, DL.sz, true_and, DL.tp2, DL.prs, DL.isr, Bool.not_true, Bool.not_false]
    refine hd a l 3 _ _ _ h6.sc.dl (by decide) (by decide) fun tu S6 u0 u1 D6 K6 => ?_
    have h7 := h6.to fp.1 (h6.sc.to D6 K6) (K6.wide k23)
    have out : ∀ o10 o11 S', BI a l c nr p kn m ws ks tl0 d S (i + 1) kn1 tl r S' → N (bEnv a c kn1 tl d p (some x) (some (D.int f)) (some (D.int inn)) (some (D.int (1 + tu))) o10 o11) S' := fun o10 o11 S' hb => hN _ _ ⟨_, _, _, _, _, _, _, _, _, rfl, hb⟩
    obtain ⟨lf, ec⟩ := h7.sc.sc
    try simp only [DL.wcs, DL.wp, DL.ds, DL.dl, List.set, if_true, if_false, reduceCtorEq, Bool.false_eq_true, eq_self, DL.sz, true_and, DL.tp2, DL.prs, DL.isr, Bool.not_true, Bool.not_false]
    refine wc_sq ?_; try simp only [DL.wcs, DL.wp, DL.ds, DL.dl, List.set, if_true, if_false, reduceCtorEq, Bool.false_eq_true, eq_self, DL.sz, true_and, DL.tp2, DL.prs, DL.isr, Bool.not_true, Bool.not_false, decide_eq_true_eq]
    have dI : ((d : Nat) : Int) + 1 = ((d + 1 : Nat) : Int) := by omega
    refine ite2 (fun _ htl => ?_) ?_
    · refine wc_sq ?_; try simp only [DL.wcs, DL.wp, DL.ds, DL.dl, List.set, if_true, if_false, reduceCtorEq, Bool.false_eq_true, eq_self, DL.sz, true_and, DL.tp2, DL.prs, DL.isr, Bool.not_true, Bool.not_false]
      refine wc_sq ?_; try simp only [DL.wcs, DL.wp, DL.ds, DL.dl, List.set, if_true, if_false, reduceCtorEq, Bool.false_eq_true, eq_self, DL.sz, true_and, DL.tp2, DL.prs, DL.isr, Bool.not_true, Bool.not_false]
      refine ⟨⟨_, lstOf_of h7.ep⟩, ?_⟩
      refine hd a l 12 _ _ _ h7.sc.dl (by decide) (by decide) fun r1 S7 a0 a1 D7 K7 => ?_
      have h8 := h7.to fp.1 (h7.sc.to D7 K7) (K7.wide k23)
      try simp only [DL.wcs, DL.wp, DL.ds, DL.dl, List.set, if_true, if_false, reduceCtorEq, Bool.false_eq_true, eq_self, DL.sz, true_and, DL.tp2, DL.prs, DL.isr, Bool.not_true, Bool.not_false]
      refine htm a l kn1 (r.nf ks) _ 6 _ _ _ (by decide) D7 h8.ek (n23 h8.nk) (by omega) (by omega) fun t S8 g n dp D8 K8 => ?_
      have h9 := h8.to fp.1 (h8.sc.to D8 K8) (K8.wide k23)
      try simp only [DL.wcs, DL.wp, DL.ds, DL.dl, List.set, if_true, if_false, reduceCtorEq, Bool.false_eq_true, eq_self, DL.sz, true_and, DL.tp2, DL.prs, DL.isr, Bool.not_true, Bool.not_false]
      refine ⟨_, lstOf_of h9.ep, sm.2.1, ?_⟩
      exact hN _ _ ⟨_, _, _, _, _, _, _, _, _, rfl, h9.more hp fp.1 fp.2 (one := .tell t .nil) rfl ⟨⟨g, n, by omega⟩, trivial⟩ h9.ek h9.nk h9.np h9.fr (by show (1 + 0 : Int) + (tl - 1) = tl; omega) (by omega) (Nat.zero_le _) (gS_pos d) (Nat.le_add_right _ _)⟩
    refine wc_sq ?_; try simp only [DL.wcs, DL.wp, DL.ds, DL.dl, List.set, if_true, if_false, reduceCtorEq, Bool.false_eq_true, eq_self, DL.sz, true_and, DL.tp2, DL.prs, DL.isr, Bool.not_true, Bool.not_false, decide_eq_true_eq]
    refine elif1 (p := f < 5) ec scene_left (fun _ hlf => ?_) ?_
    · refine wc_sq ?_; try simp only [DL.wcs, DL.wp, DL.ds, DL.dl, List.set, if_true, if_false, reduceCtorEq, Bool.false_eq_true, eq_self, DL.sz, true_and, DL.tp2, DL.prs, DL.isr, Bool.not_true, Bool.not_false]
      refine idx_dk ec rfl scene_names (idx_dk ec rfl scene_names (len_lst h7.sc.nm ?_))
      try simp only [DL.wcs, DL.wp, DL.ds, DL.dl, List.set, if_true, if_false, reduceCtorEq, Bool.false_eq_true, eq_self, DL.sz, true_and, DL.tp2, DL.prs, DL.isr, Bool.not_true, Bool.not_false]
      refine draw_in hd h7.sc.dl h7.sc.nm (n23 h7.sc.nn) (by rw [List.length_map]; exact h7.sc.w0) (by rw [List.length_map]; have := h7.sc.w9; omega) fun v S7 hv D7 K7 => ?_
      have h8 := h7.to fp.1 (h7.sc.to D7 K7) (K7.wide k23)
      obtain ⟨w, hw, rfl⟩ := List.mem_map.mp hv
      have wk := h7.sc.wk w hw
      refine wc_sq ?_; try simp only [DL.wcs, DL.wp, DL.ds, DL.dl, List.set, if_true, if_false, reduceCtorEq, Bool.false_eq_true, eq_self, DL.sz, true_and, DL.tp2, DL.prs, DL.isr, Bool.not_true, Bool.not_false]
      refine ⟨⟨_, lstOf_of h8.ep⟩, ?_⟩
      refine hset a l c nr kn1 m ws (r.nf ks) w _ _ _ h8.sc h8.ek h8.nk (by omega) fun row one S8 ⟨ol, oo, on, ot, oe, os⟩ s8 K8 => ?_
      have h9 := h8.to fp.1 s8 K8
      try simp only [DL.wcs, DL.wp, DL.ds, DL.dl, List.set, if_true, if_false, reduceCtorEq, Bool.false_eq_true, eq_self, DL.sz, true_and, DL.tp2, DL.prs, DL.isr, Bool.not_true, Bool.not_false]
      refine ⟨_, lstOf_of h9.ep, sm.2.1, ?_⟩
      refine wc_sq ?_; try simp only [DL.wcs, DL.wp, DL.ds, DL.dl, List.set, if_true, if_false, reduceCtorEq, Bool.false_eq_true, eq_self, DL.sz, true_and, DL.tp2, DL.prs, DL.isr, Bool.not_true, Bool.not_false]
      intro q2 hq2
      have nk2 : kn1 ≠ q2 := by
        intro e
        rw [← e, su_ne h9.np, h9.ek] at hq2
        cases hq2
      refine ⟨_, _, lstOf_of (by rw [su_ne nk2, su_ne h9.np]; exact h9.ek), lstOf_of su_same, by
        rw [List.length_map]
        have : 10000 < sizeLine := by decide
        simp only [List.length_cons, List.length_nil]
        omega, fun q3 hq3 => ?_⟩
      have hq2' : S8 q2 = none := by
        by_cases e : q2 = p
        · rw [e, su_same] at hq2; cases hq2
        · rw [su_ne e] at hq2; exact hq2
      have ne23 : q3 ≠ q2 := fun e => by rw [e, su_same] at hq3; cases hq3
      rw [su_ne ne23] at hq3
      have ne3p : q3 ≠ p := fun e => by rw [e, su_same] at hq3; cases hq3
      rw [su_ne ne3p] at hq3
      have ne2p : q2 ≠ p := fun e => by rw [e, su_same] at hq2; cases hq2
      -- the stores in another order
      have hsw : ∀ (T : Sto) (o1 o2 o3 : Ob), su (su (su T p o1) q2 o2) q3 o3 = su (su (su T q2 o2) q3 o3) p o1 := by
        intro T o1 o2 o3
        funext b
        unfold DL.su
        by_cases e1 : b = p
        · subst e1
          rw [if_neg (Ne.symm ne3p), if_neg (Ne.symm ne2p), if_pos rfl, if_pos rfl]
        · simp only [if_neg e1]
      rw [hsw]
      have h10 := h9.to fp.1 (h9.sc.new (o := .lst [D.str w]) hq2') (Keep.new hq2')
      have hq3' : su S8 q2 (.lst [D.str w]) q3 = none := by rw [su_ne ne23]; exact hq3
      have h11 := h10.to fp.1 (h10.sc.new (o := .lst ((r.nf ks).map D.str ++ [D.str w])) hq3') (Keep.new hq3')
      have fq3 := h10.sc.fresh hq3'
      refine hN _ _ ⟨_, _, _, _, _, _, _, _, _, rfl, h11.more hp fp.1 fp.2 ol (oo wk) (kn' := q3) ?_ fq3.1 ne3p (.inr (h10.kp.none_of hq3' fq3.1)) (by rw [ot]; omega) tl0' (by rw [oe]; exact Nat.zero_le _) (by rw [os]; exact gS_pos d) ?_⟩
      · rw [su_same, on, List.map_append]; rfl
      · rw [on, List.length_append]
        have := gB_pos d
        simp only [List.length_cons, List.length_nil]
        omega
    refine wc_sq ?_; try simp only [DL.wcs, DL.wp, DL.ds, DL.dl, List.set, if_true, if_false, reduceCtorEq, Bool.false_eq_true, eq_self, DL.sz, true_and, DL.tp2, DL.prs, DL.isr, Bool.not_true, Bool.not_false, decide_eq_true_eq]
    refine elif2 (p := f < 7) (q := ((d : Nat) : Int) < 3) ec scene_left (fun _ h3d hlf => ?_) ?_
    · have hd3 : d < 3 := by omega
      refine wc_sq ?_; try simp only [DL.wcs, DL.wp, DL.ds, DL.dl, List.set, if_true, if_false, reduceCtorEq, Bool.false_eq_true, eq_self, DL.sz, true_and, DL.tp2, DL.prs, DL.isr, Bool.not_true, Bool.not_false]
      refine wc_sq ?_; try simp only [DL.wcs, DL.wp, DL.ds, DL.dl, List.set, if_true, if_false, reduceCtorEq, Bool.false_eq_true, eq_self, DL.sz, true_and, DL.tp2, DL.prs, DL.isr, Bool.not_true, Bool.not_false]
      refine hw hd3 a l c nr kn1 m ws (r.nf ks) inn S6 _ _ (h7.pre kk i0 (by omega)) (by omega) fun t ra rb kn2 S7 tok oa ob ta tb na nb sa sb hl2 e2 nk2 fr2 s7 K7 => ?_
      have h8 := h7.to fp.1 s7 K7
      try simp only [DL.wcs, DL.wp, DL.ds, DL.dl, List.set, if_true, if_false, reduceCtorEq, Bool.false_eq_true, eq_self, DL.sz, true_and, DL.tp2, DL.prs, DL.isr, Bool.not_true, Bool.not_false]
      refine wc_sq ?_; try simp only [DL.wcs, DL.wp, DL.ds, DL.dl, List.set, if_true, if_false, reduceCtorEq, Bool.false_eq_true, eq_self, DL.sz, true_and, DL.tp2, DL.prs, DL.isr, Bool.not_true, Bool.not_false]
      have nkp : kn2 ≠ p := (sne h7.ep fr2).symm
      refine ⟨⟨_, lstOf_of h8.ep⟩, _, lstOf_of h8.ep, sm.2.1, ?_⟩
      refine hN _ _ ⟨_, _, _, _, _, _, _, _, _, rfl, h8.more hp fp.1 fp.2 (one := .whn t ra rb .nil) rfl ⟨tok, oa, ob, by rw [ta, tb], trivial⟩ e2 nk2 nkp (.inr (h7.kp.none_of fr2 nk2)) (by show ra.tells + 0 + (tl - inn) = tl; omega) (by omega) ?_ ?_ ?_⟩
      · show max (1 + max ra.nest rb.nest) 0 ≤ 3 - d
        omega
      · show 1 + ra.size + rb.size + 0 ≤ gS d
        have := gS_step d hd3
        omega
      · have := gB_step d hd3
        show ((ra.nf (r.nf ks)).filter fun x => decide (x ∈ rb.nf (r.nf ks))).length ≤ _
        omega
    refine wc_sq ?_; try simp only [DL.wcs, DL.wp, DL.ds, DL.dl, List.set, if_true, if_false, reduceCtorEq, Bool.false_eq_true, eq_self, DL.sz, true_and, DL.tp2, DL.prs, DL.isr, Bool.not_true, Bool.not_false, decide_eq_true_eq]
    have nx : ∀ o10 o11, N (bEnv a c kn1 tl d p (some x) (some (D.int f)) (some (D.int inn)) (some (D.int (1 + tu))) o10 o11) S6 := fun o10 o11 => out o10 o11 S6 h7.wide
    by_cases hf : f = 7
    · rw [if_pos hf]
      by_cases hd3 : ((d : Nat) : Int) < 3
      · rw [if_pos hd3]
        have hd3 : d < 3 := by omega
        refine idx_dk ec rfl scene_left ?_
        try simp only [DL.wcs, DL.wp, DL.ds, DL.dl, List.set, if_true, if_false, reduceCtorEq, Bool.false_eq_true, eq_self, DL.sz, true_and, DL.tp2, DL.prs, DL.isr, Bool.not_true, Bool.not_false, decide_eq_true_eq]
        by_cases hlf : 0 < lf
        · rw [if_pos hlf]
          refine ⟨.inl (.inl ⟨by omega, by omega⟩), ?_⟩
          by_cases hin : inn * (1 + tu) ≤ tl
          · rw [if_pos hin]
            have pos : 0 ≤ inn * (1 + tu) := Int.mul_nonneg i0 (by omega)
            refine wc_sq ?_; try simp only [DL.wcs, DL.wp, DL.ds, DL.dl, List.set, if_true, if_false, reduceCtorEq, Bool.false_eq_true, eq_self, DL.sz, true_and, DL.tp2, DL.prs, DL.isr, Bool.not_true, Bool.not_false]
            refine idx_dk ec rfl scene_left ?_
            try simp only [DL.wcs, DL.wp, DL.ds, DL.dl, List.set, if_true, if_false, reduceCtorEq, Bool.false_eq_true, eq_self, DL.sz, true_and, DL.tp2, DL.prs, DL.isr, Bool.not_true, Bool.not_false]
            refine ⟨.inl (.inl ⟨by omega, by omega⟩), set_dk ec rfl scene_len ?_⟩
            rw [scene_put]
            have h8 : BI a l c nr p kn m ws ks tl0 d S i kn1 tl r (su S6 c (.dk (sceneK m nr (lf - 1 + inn * (1 + tu) - inn)))) :=
              h7.to fp.1 h7.sc.put (Keep.at c3)
            generalize su S6 c (.dk (sceneK m nr (lf - 1 + inn * (1 + tu) - inn))) = S7 at h8
            refine wc_sq ?_; try simp only [DL.wcs, DL.wp, DL.ds, DL.dl, List.set, if_true, if_false, reduceCtorEq, Bool.false_eq_true, eq_self, DL.sz, true_and, DL.tp2, DL.prs, DL.isr, Bool.not_true, Bool.not_false]
            refine ⟨.inl (.inl ⟨by omega, by omega⟩), ?_⟩
            refine wc_sq ?_; try simp only [DL.wcs, DL.wp, DL.ds, DL.dl, List.set, if_true, if_false, reduceCtorEq, Bool.false_eq_true, eq_self, DL.sz, true_and, DL.tp2, DL.prs, DL.isr, Bool.not_true, Bool.not_false]
            rw [dI]
            refine hb hd3 a l c nr kn1 m ws (r.nf ks) inn S7 _ _ (h8.pre kk i0 (by omega)) (by omega) fun ra kn2 S8 oa ta na sa la e2 nk2 fr2 s8 K8 => ?_
            have h9 := h8.to fp.1 s8 K8
            try simp only [DL.wcs, DL.wp, DL.ds, DL.dl, List.set, if_true, if_false, reduceCtorEq, Bool.false_eq_true, eq_self, DL.sz, true_and, DL.tp2, DL.prs, DL.isr, Bool.not_true, Bool.not_false]
            refine wc_sq ?_; try simp only [DL.wcs, DL.wp, DL.ds, DL.dl, List.set, if_true, if_false, reduceCtorEq, Bool.false_eq_true, eq_self, DL.sz, true_and, DL.tp2, DL.prs, DL.isr, Bool.not_true, Bool.not_false]
            have nkp : kn2 ≠ p := by
              rcases fr2 with rfl | fr2
              · exact h8.np
              · exact (sne h8.ep fr2).symm
            have fr : kn2 = kn ∨ S kn2 = none := by
              rcases fr2 with rfl | fr2
              · exact h8.fr
              · exact .inr (h8.kp.none_of fr2 nk2)
            refine ⟨⟨_, lstOf_of h9.ep⟩, _, lstOf_of h9.ep, sm.2.1, ?_⟩
            refine hN _ _ ⟨_, _, _, _, _, _, _, _, _, rfl, h9.more hp fp.1 fp.2 (one := .tms (1 + tu) ra .nil) rfl ⟨by omega, by omega, oa, trivial⟩ e2 nk2 nkp fr ?_ (by omega) ?_ ?_ ?_⟩
            · show (1 + tu) * ra.tells + 0 + (tl - inn * (1 + tu)) = tl
              rw [ta, Int.mul_comm (1 + tu) inn]
              omega
            · show max (1 + ra.nest) 0 ≤ 3 - d
              omega
            · show 1 + ra.size + 0 ≤ gS d
              have := gS_step d hd3
              omega
            · have := gB_step d hd3
              show (ra.nf (r.nf ks)).length ≤ _
              omega
          · rw [if_neg hin]
            exact nx _ _
        · rw [if_neg hlf]
          exact nx _ _
      · rw [if_neg hd3]
        exact nx _ _
    · rw [if_neg hf]
      exact nx _ _
  · rintro ρ S3 ⟨kn1, tl, r, o6, o7, o8, o9, o10, o11, rfl, h4⟩
    rw [List.length_map, List.length_range] at h4
    have sm := h4.small (i := n.toNat) (by omega)
    have tl0' := h4.t0
    have tl4 : tl ≤ 4 := by
      have := Rws.tells0 r ks h4.ok
      have := h4.te
      omega
    refine wc_sq ?_
    try simp only [DL.wcs, DL.wp, DL.ds, DL.dl, List.set, if_true, if_false, reduceCtorEq, Bool.false_eq_true, eq_self, DL.sz, true_and, DL.tp2, DL.prs, DL.isr, Bool.not_true, Bool.not_false]
    refine ⟨by omega, by omega, ?_⟩
    refine for_inv (fun i ρ S' => ∃ s o6, ρ = bEnv a c kn1 tl d p o6 o7 o8 o9 o10 o11 ∧ Scene a l c nr m ws S' ∧ Keep [a, l, c] S S' ∧ S' kn1 = some (.lst ((r.nf ks).map D.str)) ∧ S' p = some (.lst (r.app s).l) ∧
        s.Ok m (r.nf ks) ∧ s.nf (r.nf ks) = r.nf ks ∧ s.tells = (i : Nat) ∧ s.nest = 0 ∧ s.size = i)
      ⟨.nil, o6, rfl, h4.sc, h4.kp, h4.ek, by rw [h4.ep, Rws.l_app]; simp [Rws.l], trivial, rfl, rfl, rfl, rfl⟩ (fun _ _ _ _ => trivial) ?_ ?_
    · rintro i x ρ S4 N hx ⟨s, o6, rfl, s4, K4, e4, ep4, so, sn, st, se, ss⟩ hN
      have hi : i < 4 := by
        have := (List.getElem?_eq_some_iff.mp hx).1
        simp at this
        omega
      try simp only [DL.wcs, DL.wp, DL.ds, DL.dl, List.set, if_true, if_false, reduceCtorEq, Bool.false_eq_true, eq_self, DL.sz, true_and, DL.tp2, DL.prs, DL.isr, Bool.not_true, Bool.not_false]
      refine wc_sq ?_; try simp only [DL.wcs, DL.wp, DL.ds, DL.dl, List.set, if_true, if_false, reduceCtorEq, Bool.false_eq_true, eq_self, DL.sz, true_and, DL.tp2, DL.prs, DL.isr, Bool.not_true, Bool.not_false]
      refine ⟨⟨_, lstOf_of ep4⟩, ?_⟩
      refine hd a l 6 _ _ _ s4.dl (by decide) (by decide) fun r1 S5 a0 a1 D5 K5 => ?_
      have s5 := s4.to D5 K5
      try simp only [DL.wcs, DL.wp, DL.ds, DL.dl, List.set, if_true, if_false, reduceCtorEq, Bool.false_eq_true, eq_self, DL.sz, true_and, DL.tp2, DL.prs, DL.isr, Bool.not_true, Bool.not_false]
      refine htm a l kn1 (r.nf ks) _ 4 _ _ _ (by decide) D5 (K5 _ _ (n23 h4.nk) e4) (n23 h4.nk) (by omega) (by omega) fun t S6 g n dp D6 K6 => ?_
      have s6 := s5.to D6 K6
      have K46 := K5.trans K6
      have ep6 := K46 _ _ (n23 fp.1) ep4
      try simp only [DL.wcs, DL.wp, DL.ds, DL.dl, List.set, if_true, if_false, reduceCtorEq, Bool.false_eq_true, eq_self, DL.sz, true_and, DL.tp2, DL.prs, DL.isr, Bool.not_true, Bool.not_false]
      refine ⟨_, lstOf_of ep6, ?_, ?_⟩
      · rw [Rws.l_app, List.length_append]
        have h1 := Rws.len_l s
        have h2 := Rws.len_l r
        have h3 := szB_le d
        have h4 : 10000 < sizeLine := by decide
        unfold szB at h3
        omega
      · refine hN _ _ ⟨s.app (.tell t .nil), some x, rfl, s6.acc fp.1 fp.2, keep_acc K4 hp (K46.wide k23), by rw [su_ne h4.np]; exact K46 _ _ (n23 h4.nk) e4, ?_, ?_, ?_, ?_, ?_, ?_⟩
        · rw [su_same, Rws.l_app, Rws.l_app, Rws.l_app]
          simp [Rws.l]
        · exact Rws.ok_app _ _ _ so (by rw [sn]; exact ⟨⟨g, n, by omega⟩, trivial⟩)
        · rw [Rws.nf_app, sn]; rfl
        · rw [Rws.tells_app, st]; show (i : Int) + (1 + 0) = ((i + 1 : Nat) : Int); omega
        · rw [Rws.nest_app, se]; rfl
        · rw [Rws.size_app, ss]; rfl
    · rintro ρ S4 ⟨s, o6, rfl, s4, K4, e4, ep4, so, sn, st, se, ss⟩
      rw [List.length_map, List.length_range] at st ss
      refine wc_sq ?_; try simp only [DL.wcs, DL.wp, DL.ds, DL.dl, List.set, if_true, if_false, reduceCtorEq, Bool.false_eq_true, eq_self, DL.sz, true_and, DL.tp2, DL.prs, DL.isr, Bool.not_true, Bool.not_false]
      refine ⟨_, seqD_of ep4, ?_⟩
      refine k (r.app s) kn1 S4 (Rws.ok_app _ _ _ h4.ok so) ?_ ?_ ?_ ?_ ?_ h4.nk h4.fr s4 K4
      · rw [Rws.tells_app, st]; have := h4.te; omega
      · rw [Rws.nest_app, se]; have := h4.ne; omega
      · rw [Rws.size_app, ss]; unfold szB; omega
      · rw [Rws.nf_app, sn]; exact sm.2.2
      · rw [Rws.nf_app, sn]; exact e4
end DL

set_option Elab.async false
set_option linter.all false
set_option maxRecDepth 100000
/-! LC: the deal, the drawn program (k17, k19) -/
namespace DL
open PySem PySem.Spec PyProof.Rows L2

theorem cutD_to {xs : List D} {k : Nat} : cutD xs none (some (k : Int)) = xs.take k := by
  unfold cutD
  rw [HT.sIx_none, HT.sIx_nat, List.drop_zero, Nat.sub_zero]
  apply List.ext_getElem?
  intro i
  rw [List.getElem?_take, List.getElem?_take]
  by_cases h : i < xs.length
  · by_cases h2 : i < k
    · rw [if_pos (by omega), if_pos h2]
    · rw [if_neg (by omega), if_neg h2]
  · rw [List.getElem?_eq_none (by omega)]
    simp
theorem cutD_map {ns : List Int} {lo hi : Option Int} : ∃ zs : List Int, cutD (ns.map D.int) lo hi = zs.map D.int ∧ zs.length ≤ ns.length := by
  refine ⟨(ns.drop (HT.sIx ns.length 0 lo)).take (HT.sIx ns.length ns.length hi - HT.sIx ns.length 0 lo), ?_, ?_⟩
  · unfold cutD
    rw [List.length_map, List.map_take, List.map_drop]
  · rw [List.length_take, List.length_drop]; omega
theorem item_int {zs : List Int} {i : Nat} {x : D} (h : (zs.map D.int)[i]? = some x) : ∃ z, zs[i]? = some z ∧ x = .int z := by
  rw [List.getElem?_map] at h
  cases e : zs[i]? with
  | none => rw [e] at h; cases h
  | some z => rw [e] at h; exact ⟨z, rfl, (Option.some.inj h).symm⟩
def DealFn (Φ : Call) : Prop := ∀ (ns : List Int) (b : Int) (S : Sto) (Q : QD) (X : XD), ns.length ≤ 63 → 0 ≤ b → b < 1000 →
  (∀ a l S', Deal a l S' → S a = none → S l = none → Keep [] S S' → Q (.ref a) S') → Φ 1020 [.fl (ns.map D.int), .int b] S Q X
theorem deal_ok {G : GT} {Φ : Call} {ns : List Int} {b : Int} {S : Sto} {Q : QD} {X : XD} (hn : ns.length ≤ 63) (hb : 0 ≤ b) (hb2 : b < 1000)
    (k : ∀ a l S', Deal a l S' → S a = none → S l = none → Keep [] S S' → Q (.ref a) S') : wc G Φ l_deal_6082.body (endsD Q X) (startD 5 [.fl (ns.map D.int), .int b]) S := by
  unfold l_deal_6082
  show wc G Φ _ (endsD Q X) [some (D.fl (ns.map D.int)), some (D.int b), none, none, none] S
  have hsz : 10000 < sizeLine := by decide
  refine wc_sq ?_; try simp only [DL.wcs, DL.wp, DL.ds, DL.dl, List.set, if_true, if_false, reduceCtorEq, Bool.false_eq_true, eq_self, DL.sz, true_and, DL.tp2, DL.prs, DL.isr, Bool.not_true, Bool.not_false]
  intro q hq
  obtain ⟨zs, ez, lz⟩ := cutD_map (ns := ns) (lo := some b) (hi := some 63)
  rw [ez]
  have e1 : su S q (.lst (zs.map D.int)) q = some (.lst (zs.map D.int)) := su_same
  have K1 : Keep [] S (su S q (.lst (zs.map D.int))) := Keep.new hq
  generalize su S q (.lst (zs.map D.int)) = S1 at e1 K1
  refine ⟨_, lstOf_of e1, fun p hp => ?_⟩
  have nqp : q ≠ p := sne e1 hp
  refine lc_inv (fun i acc S2 => Keep [] S1 S2 ∧ S2 p = some (.lst acc) ∧ S2 q = some (.lst (zs.map D.int)) ∧ ∃ cs : List Int, acc = cs.map D.int ∧ cs.length = i ∧ ∀ z ∈ cs, 0 ≤ z)
    ⟨Keep.new hp, su_same, by rw [su_ne nqp]; exact e1, [], rfl, rfl, fun _ h => nomatch h⟩ (fun _ _ _ h => lstOf_of h.2.2.1) ?_ ?_
  · rintro i x acc S2 N hx ⟨K2, e2, eq2, cs, rfl, hc, h0⟩ hN
    obtain ⟨z, hz, rfl⟩ := item_int hx
    have hi : i < zs.length := (List.getElem?_eq_some_iff.mp hz).1
    try simp only [DL.wcs, DL.wp, DL.ds, DL.dl, List.set, if_true, if_false, reduceCtorEq, Bool.false_eq_true, eq_self, DL.sz, true_and, DL.tp2, DL.prs, DL.isr, Bool.not_true, Bool.not_false]
    refine ⟨_, lstOf_of e2, by rw [List.length_map]; omega, hN (cs.map D.int ++ [.int (if 0 - z > z then 0 - z else z)]) _ ⟨keep_acc K2 hp Keep.refl, su_same, by rw [su_ne nqp]; exact eq2, cs ++ [if 0 - z > z then 0 - z else z], by simp, by simp [hc], ?_⟩⟩
    intro y hy
    rcases List.mem_append.mp hy with hy | hy
    · exact h0 y hy
    · rw [List.mem_singleton.mp hy]
      split <;> omega
  · rintro acc S2 ⟨K2, e2, _, cs, rfl, hc, h0⟩
    rw [List.length_map] at hc
    refine wc_sq ?_; try simp only [DL.wcs, DL.wp, DL.ds, DL.dl, List.set, if_true, if_false, reduceCtorEq, Bool.false_eq_true, eq_self, DL.sz, true_and, DL.tp2, DL.prs, DL.isr, Bool.not_true, Bool.not_false]
    have hpS : S p = none := K1.none_of hp (by simp)
    have K02 := K1.trans K2
    refine wc_sq ?_
    try simp only [DL.wcs, DL.wp, DL.ds, DL.dl, List.set, if_true, if_false, reduceCtorEq, Bool.false_eq_true, eq_self, DL.sz, true_and, DL.tp2, DL.prs, DL.isr, Bool.not_true, Bool.not_false]
    refine ⟨_, lstOf_of e2, ?_⟩
    refine for_inv (fun i ρ S' => ∃ n o4, ρ = [some (D.fl (ns.map D.int)), some (D.int b), some (D.ref p), some (D.int n), o4] ∧ 0 ≤ n ∧ n < 2 ^ 62 ∧ S' = S2) ⟨7919 + b, none, rfl, by omega, by omega, rfl⟩ (fun _ _ _ ⟨_, _, _, _, _, h⟩ => by rw [h]; exact lstOf_of e2) ?_ ?_
    · rintro i x ρ S3 N hx ⟨n, o4, rfl, n0, n1, rfl⟩ hN
      obtain ⟨z, hz, rfl⟩ := item_int hx
      try simp only [DL.wcs, DL.wp, DL.ds, DL.dl, List.set, if_true, if_false, reduceCtorEq, Bool.false_eq_true, eq_self, DL.sz, true_and, DL.tp2, DL.prs, DL.isr, Bool.not_true, Bool.not_false]
      refine wc_sq ?_; try simp only [DL.wcs, DL.wp, DL.ds, DL.dl, List.set, if_true, if_false, reduceCtorEq, Bool.false_eq_true, eq_self, DL.sz, true_and, DL.tp2, DL.prs, DL.isr, Bool.not_true, Bool.not_false]
      refine ⟨.inl (.inr ⟨by decide, by decide⟩), by decide, by decide, ?_⟩
      exact hN _ _ ⟨_, _, rfl, Int.emod_nonneg _ (by decide), Int.lt_trans (Int.emod_lt_of_pos _ (by decide)) (by decide), rfl⟩
    · rintro ρ S3 ⟨n, o4, rfl, n0, n1, rfl⟩
      refine wc_sq ?_; try simp only [DL.wcs, DL.wp, DL.ds, DL.dl, List.set, if_true, if_false, reduceCtorEq, Bool.false_eq_true, eq_self, DL.sz, true_and, DL.tp2, DL.prs, DL.isr, Bool.not_true, Bool.not_false]
      intro a ha
      refine ⟨_, lstOf_of (by rw [su_ne (sne e2 ha)]; exact e2), fun r hr => ?_⟩
      have nar : a ≠ r := fun e => by rw [← e, su_same] at hr; cases hr
      have hrS3 : S3 r = none := by rw [su_ne (Ne.symm nar)] at hr; exact hr
      have npr : p ≠ r := sne e2 hrS3
      have npa : p ≠ a := sne e2 ha
      refine lc_inv (fun i acc S2 => Keep [] S3 S2 ∧ S2 a = some (.dk []) ∧ S2 r = some (.lst acc) ∧ S2 p = some (.lst (cs.map D.int)) ∧ ∃ ds : List Int, acc = ds.map D.int ∧ ds.length ≤ i ∧ ∀ z ∈ ds, 0 ≤ z)
        ⟨(Keep.new ha).trans (Keep.new hr), by rw [su_ne nar, su_same], su_same, by rw [su_ne npr, su_ne npa]; exact e2, [], rfl, Nat.le_refl _, fun _ h => nomatch h⟩ (fun _ _ _ h => lstOf_of h.2.2.2.1) ?_ ?_
      · rintro i x acc S4 N hx ⟨K4, ea4, er4, ep4, ds, rfl, hds, h0'⟩ hN
        obtain ⟨z, hz, rfl⟩ := item_int hx
        have hi : i < cs.length := (List.getElem?_eq_some_iff.mp hz).1
        try simp only [DL.wcs, DL.wp, DL.ds, DL.dl, List.set, if_true, if_false, reduceCtorEq, Bool.false_eq_true, eq_self, DL.sz, true_and, DL.tp2, DL.prs, DL.isr, Bool.not_true, Bool.not_false]
        refine ⟨⟨by decide, by decide, by decide⟩, ?_⟩
        try simp only [DL.wcs, DL.wp, DL.ds, DL.dl, List.set, if_true, if_false, reduceCtorEq, Bool.false_eq_true, eq_self, DL.sz, true_and, DL.tp2, DL.prs, DL.isr, Bool.not_true, Bool.not_false, decide_eq_true_eq]
        split
        · refine ⟨_, lstOf_of er4, by rw [List.length_map]; omega, hN (ds.map D.int ++ [.int z]) _ ⟨keep_acc K4 hrS3 Keep.refl, by rw [su_ne nar]; exact ea4, su_same, by rw [su_ne npr]; exact ep4, ds ++ [z], by simp, by simp; omega, ?_⟩⟩
          intro y hy
          rcases List.mem_append.mp hy with hy | hy
          · exact h0' y hy
          · rw [List.mem_singleton.mp hy]
            exact h0 z (List.mem_of_getElem? hz)
        · exact hN (ds.map D.int) _ ⟨K4, ea4, er4, ep4, ds, rfl, by omega, h0'⟩
      · rintro acc S4 ⟨K4, ea4, er4, ep4, ds, rfl, hds, h0'⟩
        refine ⟨_, seqD_of er4, fun l hl => ?_⟩
        try simp only [DL.wcs, DL.wp, DL.ds, DL.dl, List.set, if_true, if_false, reduceCtorEq, Bool.false_eq_true, eq_self, DL.sz, true_and, DL.tp2, DL.prs, DL.isr, Bool.not_true, Bool.not_false]
        have nal : a ≠ l := sne ea4 hl
        rw [← List.map_reverse]
        refine ⟨by rw [su_ne nal]; exact ea4, ?_⟩
        have em : mergeD [] ([Sum.inr (Str.ofString "seed"), Sum.inr (Str.ofString "number"), Sum.inr (Str.ofString "left")].zip [D.int n, D.int 0, D.ref l]) = dealK n 0 l := by kernel_rfl
        rw [em]
        have K : Keep [] S S4 := K02.trans K4
        refine k a l _ ⟨nal, ⟨n, 0, su_same, n0, n1, Int.le_refl _⟩, ds.reverse, by rw [su_ne nal.symm, su_same], fun z hz => h0' z (List.mem_reverse.mp hz)⟩ (K02.none_of ha (by simp)) (K.none_of hl (by simp)) ?_
        intro c o hc e
        have hca : c ≠ a := fun x => by rw [x, K02.none_of ha (by simp)] at e; cases e
        have hcl : c ≠ l := fun x => by rw [x, K.none_of hl (by simp)] at e; cases e
        rw [su_ne hca, su_ne hcl]
        exact K _ _ (by simp) e
/-- a drawn program, let by -/
structure ProgOk (ks : List Str) (r : Rws) : Prop where
  k1 : 1 ≤ ks.length
  k3 : ks.length ≤ 3
  kn : ks.Nodup
  kk : ∀ x ∈ ks, NmOk x
  ok : r.Ok (ks.length : Nat) []
  t1 : 1 ≤ r.tells
  t4 : r.tells ≤ 4
  ne : r.nest ≤ 3
  sz : r.size ≤ 8000
def progD (ks : List Str) (r : Rws) : D := .tup [.tup (ks.map D.str), .tup r.l]
def ProgramFn (Φ : Call) : Prop := ∀ (a l : Addr) (most : Int) (S : Sto) (Q : QD) (X : XD), Deal a l S → (∀ ks r S', ProgOk ks r → Deal a l S' → Keep [a, l] S S' → Q (progD ks r) S') → Φ 1089 [.ref a, .int most] S Q X
theorem erase_map {f : Str → D} : ∀ (ys : List Str) (i : Nat), (ys.map f).eraseIdx i = (ys.eraseIdx i).map f
  | [], _ => rfl
  | _ :: _, 0 => rfl
  | y :: ys, i + 1 => by
    show f y :: (ys.map f).eraseIdx i = f y :: (ys.eraseIdx i).map f
    rw [erase_map ys i]
theorem nodup_erase : ∀ {ys : List Str} {i : Nat}, ys.Nodup → (h : i < ys.length) → ys[i] ∉ ys.eraseIdx i
  | y :: ys, 0, n, _ => (List.nodup_cons.mp n).1
  | y :: ys, i + 1, n, h => by
    have n2 := List.nodup_cons.mp n
    have h' : i < ys.length := by simpa using h
    intro hm
    have hm : ys[i] ∈ y :: ys.eraseIdx i := hm
    rcases List.mem_cons.mp hm with e | hm
    · exact n2.1 (e ▸ List.getElem_mem h')
    · exact nodup_erase n2.2 h' hm
theorem seqIx {n : Nat} {i : Int} (h0 : 0 ≤ i) (h1 : i < n) : seqIndex? i n = some i.toNat := by
  have h : ixN n i = some i.toNat := by
    unfold ixN
    rw [if_pos h0, if_pos h1]
  exact (ixN_seq h).1
theorem program_ok {G : GT} {Φ : Call} (hd : DrawOk Φ) (hn : NamesFn Φ) (hb : BlockFn 0 Φ) {a l : Addr} {most : Int} {S : Sto} {Q : QD} {X : XD} (h : Deal a l S)
    (k : ∀ ks r S', ProgOk ks r → Deal a l S' → Keep [a, l] S S' → Q (progD ks r) S') : wc G Φ l_program_293e.body (endsD Q X) (startD 10 [.ref a, .int most]) S := by
  unfold l_program_293e
  show wc G Φ _ (endsD Q X) [some (D.ref a), some (D.int most), none, none, none, none, none, none, none, none] S
  have hsz : 10000 < sizeLine := by decide
  refine wc_sq ?_; try simp only [DL.wcs, DL.wp, DL.ds, DL.dl, List.set, if_true, if_false, reduceCtorEq, Bool.false_eq_true, eq_self, DL.sz, true_and, DL.tp2, DL.prs, DL.isr, Bool.not_true, Bool.not_false]
  refine hd a l 3 _ _ _ h (by decide) (by decide) fun m S1 m0 m1 D1 K1 => ?_
  refine wc_sq ?_; try simp only [DL.wcs, DL.wp, DL.ds, DL.dl, List.set, if_true, if_false, reduceCtorEq, Bool.false_eq_true, eq_self, DL.sz, true_and, DL.tp2, DL.prs, DL.isr, Bool.not_true, Bool.not_false]
  refine hd a l 4 _ _ _ D1 (by decide) (by decide) fun t S2 t0 t1 D2 K2 => ?_
  refine wc_sq ?_; try simp only [DL.wcs, DL.wp, DL.ds, DL.dl, List.set, if_true, if_false, reduceCtorEq, Bool.false_eq_true, eq_self, DL.sz, true_and, DL.tp2, DL.prs, DL.isr, Bool.not_true, Bool.not_false]
  refine hn a l 9 _ _ _ D2 (by decide) (by decide) fun ws kp S3 kp0 ek lw nw ow D3 K3 => ?_
  have nk := D2.nea kp0
  refine wc_sq ?_; try simp only [DL.wcs, DL.wp, DL.ds, DL.dl, List.set, if_true, if_false, reduceCtorEq, Bool.false_eq_true, eq_self, DL.sz, true_and, DL.tp2, DL.prs, DL.isr, Bool.not_true, Bool.not_false]
  refine hn a l 6 _ _ _ D3 (by decide) (by decide) fun ws' np S4 np0 en lw' nw' ow' D4 K4 => ?_
  have nn := D3.nea np0
  have K04 := ((K1.trans K2).trans K3).trans K4
  have ek4 := K4 _ _ (nin2 nk) ek
  try simp only [DL.wcs, DL.wp, DL.ds, DL.dl, List.set, if_true, if_false, reduceCtorEq, Bool.false_eq_true, eq_self, DL.sz, true_and, DL.tp2, DL.prs, DL.isr, Bool.not_true, Bool.not_false]
  intro q hq
  have nq := D4.nea hq
  refine hd a l 2 _ _ _ (D4.new hq) (by decide) (by decide) fun v S5 v0 v1 D5 K5 => ?_
  have K45 : Keep [a, l] S4 S5 := (Keep.new hq).trans K5
  have ek5 := K45 _ _ (nin2 nk) ek4
  have en5 := K45 _ _ (nin2 nn) en
  obtain ⟨us, b, hv, eb, lu, ou⟩ : ∃ (us : List Str) (b : Addr), atI [D.ref kp, D.ref np] v = some (.ref b) ∧ S5 b = some (.lst (us.map D.str)) ∧ 6 ≤ us.length ∧ ∀ w ∈ us, NmOk w := by
    by_cases hv : v = 0
    · subst hv
      exact ⟨ws, kp, rfl, ek5, by rw [lw]; decide, ow⟩
    · obtain rfl : v = 1 := by omega
      exact ⟨ws', np, rfl, en5, by rw [lw']; decide, ow'⟩
  refine idx_lst (K5 _ _ (nin2 nq) su_same) hv ⟨_, lstOf_of eb, fun nr hnr => ?_⟩
  have e6 : cutD (us.map D.str) none (some 6) = (us.take 6).map D.str := by
    have := cutD_to (xs := us.map D.str) (k := 6)
    rw [List.map_take]
    exact this
  rw [e6]
  have D6 := D5.new (o := .lst ((us.take 6).map D.str)) hnr
  have K6 : Keep [a, l] S (su S5 nr (.lst ((us.take 6).map D.str))) := (K04.trans K45).trans (Keep.new hnr)
  have en6 : su S5 nr (.lst ((us.take 6).map D.str)) nr = some (.lst ((us.take 6).map D.str)) := su_same
  have ek6 : su S5 nr (.lst ((us.take 6).map D.str)) kp = some (.lst (ws.map D.str)) := by rw [su_ne (sne ek5 hnr)]; exact ek5
  have nnr := D5.nea hnr
  have nkr : kp ≠ nr := sne ek5 hnr
  generalize su S5 nr (.lst ((us.take 6).map D.str)) = S6 at D6 K6 en6 ek6
  refine wc_sq ?_; try simp only [DL.wcs, DL.wp, DL.ds, DL.dl, List.set, if_true, if_false, reduceCtorEq, Bool.false_eq_true, eq_self, DL.sz, true_and, DL.tp2, DL.prs, DL.isr, Bool.not_true, Bool.not_false]
  intro c hc
  try simp only [DL.wcs, DL.wp, DL.ds, DL.dl, List.set, if_true, if_false, reduceCtorEq, Bool.false_eq_true, eq_self, DL.sz, true_and, DL.tp2, DL.prs, DL.isr, Bool.not_true, Bool.not_false]
  refine ⟨su_same, ?_⟩
  have em : mergeD [] ([Sum.inr (Str.ofString "many"), Sum.inr (Str.ofString "names"), Sum.inr (Str.ofString "left")].zip [D.int (1 + m), D.ref nr, D.int (most - (1 + t))]) = sceneK (1 + m) nr (most - (1 + t)) := by kernel_rfl
  rw [em, su_su]
  have nc := D6.nea hc
  have nrc : nr ≠ c := sne en6 hc
  have nkc : kp ≠ c := sne ek6 hc
  have hcS : S c = none := K6.none_of hc (nin2 nc)
  have nrm : nr ∉ [a, l, c] := by
    intro x
    rcases List.mem_cons.mp x with rfl | x
    · exact nnr.1 rfl
    rcases List.mem_cons.mp x with rfl | x
    · exact nnr.2 rfl
    · exact nrc (List.mem_singleton.mp x)
  have kpm : kp ∉ [a, l, c] := by
    intro x
    rcases List.mem_cons.mp x with rfl | x
    · exact nk.1 rfl
    rcases List.mem_cons.mp x with rfl | x
    · exact nk.2 rfl
    · exact nkc (List.mem_singleton.mp x)
  have sc : Scene a l c nr (1 + m) (us.take 6) (su S6 c (.dk (sceneK (1 + m) nr (most - (1 + t))))) :=
    { dl := D6.new hc, sc := ⟨_, su_same⟩, nm := by rw [su_ne nrc]; exact en6, nc := nin2 nc, nn := nrm, m0 := by omega, m9 := by omega,
      w0 := by rw [List.length_take]; omega, w9 := by rw [List.length_take]; omega, wk := fun w hw => ou w (List.mem_of_mem_take hw) }
  have ek7 : su S6 c (.dk (sceneK (1 + m) nr (most - (1 + t)))) kp = some (.lst (ws.map D.str)) := by rw [su_ne nkc]; exact ek6
  have K7 : Keep [a, l] S (su S6 c (.dk (sceneK (1 + m) nr (most - (1 + t))))) := K6.trans (Keep.new hc)
  generalize su S6 c (.dk (sceneK (1 + m) nr (most - (1 + t)))) = S7 at sc ek7 K7
  refine wc_sq ?_; try simp only [DL.wcs, DL.wp, DL.ds, DL.dl, List.set, if_true, if_false, reduceCtorEq, Bool.false_eq_true, eq_self, DL.sz, true_and, DL.tp2, DL.prs, DL.isr, Bool.not_true, Bool.not_false]
  intro kn hkn
  have fk := sc.fresh hkn
  have sc8 := sc.new (o := .lst []) hkn
  have K78 : Keep [a, l, c] S7 (su S7 kn (.lst [])) := Keep.new hkn
  refine hb a l c nr kn (1 + m) (us.take 6) [] (1 + t) _ _ _ ⟨sc8, su_same, fk.1, fun _ h => (nomatch h), by omega, by omega⟩ (Nat.zero_le _) fun r kn' S8 ok te ne sz kl e8 nk8 fr8 s8 K8 => ?_
  have K7' := K78.trans K8
  have ek8 := K7' _ _ kpm ek7
  have keepS : ∀ S', Keep [a, l, c] S7 S' → Keep [a, l] S S' := fun S' h b o hb e => by
    have hbc : b ≠ c := fun x => by rw [x, hcS] at e; cases e
    refine h b o (fun x => ?_) (K7 b o hb e)
    rcases List.mem_cons.mp x with x | x
    · exact hb (by rw [x]; exact List.mem_cons_self)
    rcases List.mem_cons.mp x with x | x
    · exact hb (by rw [x]; exact List.mem_cons_of_mem _ List.mem_cons_self)
    · exact hbc (List.mem_singleton.mp x)
  have K8S := keepS S8 K7'
  try simp only [DL.wcs, DL.wp, DL.ds, DL.dl, List.set, if_true, if_false, reduceCtorEq, Bool.false_eq_true, eq_self, DL.sz, true_and, DL.tp2, DL.prs, DL.isr, Bool.not_true, Bool.not_false]
  refine wc_sq ?_; try simp only [DL.wcs, DL.wp, DL.ds, DL.dl, List.set, if_true, if_false, reduceCtorEq, Bool.false_eq_true, eq_self, DL.sz, true_and, DL.tp2, DL.prs, DL.isr, Bool.not_true, Bool.not_false]
  refine ⟨by omega, by omega, fun p hp => ?_⟩
  have npp := s8.dl.nea hp
  have nkp : kp ≠ p := sne ek8 hp
  have hpS : S p = none := K8S.none_of hp (nin2 npp)
  have hkS : S kp = none := (K1.trans K2).none_of kp0 (nin2 nk)
  refine lc_inv (fun i acc S' => Deal a l S' ∧ Keep [a, l] S S' ∧ S' p = some (.lst acc) ∧ ∃ xs ys : List Str, acc = xs.map D.str ∧ S' kp = some (.lst (ys.map D.str)) ∧ xs.length = i ∧ ys.length + i = 9 ∧ xs.Nodup ∧ ys.Nodup ∧ (∀ x ∈ xs, x ∉ ys) ∧ (∀ x ∈ xs, NmOk x) ∧ ∀ y ∈ ys, NmOk y)
    ⟨s8.dl.new hp, K8S.trans (Keep.new hp), su_same, [], ws, rfl, by rw [su_ne nkp]; exact ek8, rfl, by rw [lw]; rfl, List.nodup_nil, nw, fun _ h => (nomatch h), fun _ h => (nomatch h), ow⟩ (fun _ _ _ _ => trivial) ?_ ?_
  · rintro i x acc S9 N hx ⟨D9, K9, e9, xs, ys, rfl, ey, lx, ly, nx, ny, dj, ox, oy⟩ hN
    have hi : i < 3 := by
      have := (range_item hx).1
      omega
    try simp only [DL.wcs, DL.wp, DL.ds, DL.dl, List.set, if_true, if_false, reduceCtorEq, Bool.false_eq_true, eq_self, DL.sz, true_and, DL.tp2, DL.prs, DL.isr, Bool.not_true, Bool.not_false]
    refine ⟨⟨_, lstOf_of ey⟩, len_lst ey ?_⟩
    try simp only [DL.wcs, DL.wp, DL.ds, DL.dl, List.set, if_true, if_false, reduceCtorEq, Bool.false_eq_true, eq_self, DL.sz, true_and, DL.tp2, DL.prs, DL.isr, Bool.not_true, Bool.not_false]
    refine hd a l _ _ _ _ D9 (by rw [List.length_map]; omega) (by rw [List.length_map]; omega) fun j S10 j0 j1 D10 K10 => ?_
    rw [List.length_map] at j1
    have ey10 := K10 _ _ (nin2 nk) ey
    have e10 := K10 _ _ (nin2 npp) e9
    have hj : j.toNat < ys.length := by omega
    refine ⟨_, _, _, lstOf_of ey10, by omega, by omega, by rw [List.length_map]; exact seqIx j0 j1, by rw [List.getElem?_map, List.getElem?_eq_getElem hj]; rfl, ?_⟩
    have ny' : (ys.eraseIdx j.toNat).Nodup := List.Nodup.sublist (List.eraseIdx_sublist ys _) ny
    have sub : ∀ y ∈ ys.eraseIdx j.toNat, y ∈ ys := fun y hy => (List.eraseIdx_sublist ys _).subset hy
    have hjm : ys[j.toNat] ∈ ys := List.getElem_mem _
    have hje : ys[j.toNat] ∉ ys.eraseIdx j.toNat := nodup_erase ny hj
    refine ⟨_, lstOf_of (by rw [su_ne nkp.symm]; exact e10), by rw [List.length_map]; omega, hN (xs.map D.str ++ [.str ys[j.toNat]]) _ ⟨(D10.acc nk).acc npp, keep_acc (keep_acc K9 hkS K10) hpS Keep.refl, su_same, xs ++ [ys[j.toNat]], ys.eraseIdx j.toNat, by simp, ?_, by simp [lx], ?_, ?_, ny', ?_, ?_, fun y hy => oy y (sub y hy)⟩⟩
    · rw [su_ne nkp, su_same, erase_map]
    · rw [List.length_eraseIdx, if_pos hj]; omega
    · rw [List.nodup_append]
      refine ⟨nx, List.nodup_cons.mpr ⟨List.not_mem_nil, List.nodup_nil⟩, fun y hy z hz e => ?_⟩
      rw [List.mem_singleton.mp hz] at e
      exact dj y hy (by rw [e]; exact hjm)
    · intro y hy
      rcases List.mem_append.mp hy with hy | hy
      · exact fun hm => dj y hy (sub y hm)
      · rw [List.mem_singleton.mp hy]; exact hje
    · intro y hy
      rcases List.mem_append.mp hy with hy | hy
      · exact ox y hy
      · rw [List.mem_singleton.mp hy]; exact oy _ hjm
  · rintro acc S9 ⟨D9, K9, e9, xs, ys, rfl, ey, lx, ly, nx, ny, dj, ox, oy⟩
    rw [List.length_map, List.length_range] at lx
    refine ⟨_, seqD_of e9, ?_⟩
    try simp only [DL.wcs, DL.wp, DL.ds, DL.dl, List.set, if_true, if_false, reduceCtorEq, Bool.false_eq_true, eq_self, DL.sz, true_and, DL.tp2, DL.prs, DL.isr, Bool.not_true, Bool.not_false]
    refine k xs r S9 ⟨by omega, by omega, nx, ox, ?_, by omega, by omega, ne, Nat.le_trans sz (szB_le 0)⟩ D9 K9
    have : ((xs.length : Nat) : Int) = 1 + m := by omega
    rw [this]
    exact ok
end DL

set_option Elab.async false
set_option linter.all false
set_option maxRecDepth 100000
/-! LD: rows gone through (k19) -/
namespace DL
open PySem PySem.Spec PyProof.Rows L2

def Th.tag : Th → Str
  | .ladder .. => "ladder" | .flat .. => "flat" | .choose .. => "choose" | .first .. => "first"
def Th.rest (x : Str) : Th → List D
  | .ladder s st lo hi => [.str x, sumD s, frD st, .int lo, .int hi]
  | .flat s z lo hi => [.str x, sumD s, .int z, .int lo, .int hi]
  | .choose ss st lo hi => [.str x, sumsD ss, frD st, .int lo, .int hi]
  | .first mk st st2 ss lo hi => [.str x, .int mk, frD st, frD st2, sumsD ss, .int lo, .int hi]
theorem Th.d_eq (x : Str) : ∀ h : Th, h.d x = .tup (.str h.tag :: h.rest x)
  | .ladder .. => rfl | .flat .. => rfl | .choose .. => rfl | .first .. => rfl
def throwsW : List Str := ["ladder", "flat", "choose", "first"]
theorem Th.tag_ne : ∀ h : Th, h.tag ≠ ("when" : String) ∧ h.tag ≠ ("times" : String)
  | .ladder .. => by simp only [Th.tag, ne_eq, ofStr_inj]; decide
  | .flat .. => by simp only [Th.tag, ne_eq, ofStr_inj]; decide
  | .choose .. => by simp only [Th.tag, ne_eq, ofStr_inj]; decide
  | .first .. => by simp only [Th.tag, ne_eq, ofStr_inj]; decide
namespace Rws
/-- all rows, in the order of the text -/
def pre : Rws → List D
  | nil => []
  | thr x h r => h.d x :: r.pre
  | lt x t r => .tup [.str "let", .str x, t.d] :: r.pre
  | tell t r => .tup [.str "tell", t.d] :: r.pre
  | whn t a b r => .tup [.str "when", t.d, .tup a.l, .tup b.l] :: (a.pre ++ (b.pre ++ r.pre))
  | tms n a r => .tup [.str "times", .int n, .tup a.l] :: (a.pre ++ r.pre)
theorem pre_app : ∀ r s : Rws, (r.app s).pre = r.pre ++ s.pre
  | nil, _ => rfl
  | thr _ _ r, s => by simp only [app, pre, List.cons_append, pre_app r s]
  | lt _ _ r, s => by simp only [app, pre, List.cons_append, pre_app r s]
  | tell _ r, s => by simp only [app, pre, List.cons_append, pre_app r s]
  | whn _ _ _ r, s => by simp only [app, pre, List.cons_append, pre_app r s, List.append_assoc]
  | tms _ _ r, s => by simp only [app, pre, List.cons_append, pre_app r s, List.append_assoc]
theorem app_assoc : ∀ r s t : Rws, (r.app s).app t = r.app (s.app t)
  | nil, _, _ => rfl
  | thr _ _ r, s, t => by simp only [app, app_assoc r s t]
  | lt _ _ r, s, t => by simp only [app, app_assoc r s t]
  | tell _ r, s, t => by simp only [app, app_assoc r s t]
  | whn _ _ _ r, s, t => by simp only [app, app_assoc r s t]
  | tms _ _ r, s, t => by simp only [app, app_assoc r s t]
theorem app_nil : ∀ r : Rws, r.app nil = r
  | nil => rfl
  | thr _ _ r => by simp only [app, app_nil r]
  | lt _ _ r => by simp only [app, app_nil r]
  | tell _ r => by simp only [app, app_nil r]
  | whn _ _ _ r => by simp only [app, app_nil r]
  | tms _ _ r => by simp only [app, app_nil r]
theorem pre_len : ∀ r : Rws, r.pre.length = r.size
  | nil => rfl
  | thr _ _ r => by simp only [pre, size, List.length_cons, pre_len r]; omega
  | lt _ _ r => by simp only [pre, size, List.length_cons, pre_len r]; omega
  | tell _ r => by simp only [pre, size, List.length_cons, pre_len r]; omega
  | whn _ a b r => by simp only [pre, size, List.length_cons, List.length_append, pre_len r, pre_len a, pre_len b]; omega
  | tms _ a r => by simp only [pre, size, List.length_cons, List.length_append, pre_len r, pre_len a]; omega
theorem pre_form : ∀ (r : Rws) (d : D), d ∈ r.pre → ∃ w xs, d = .tup (.str w :: xs)
  | nil, _, h => nomatch h
  | thr x hh r, d, h => by
    rcases List.mem_cons.mp h with rfl | h
    · exact ⟨_, _, Th.d_eq x hh⟩
    · exact pre_form r d h
  | lt _ _ r, d, h => by
    rcases List.mem_cons.mp h with rfl | h
    · exact ⟨_, _, rfl⟩
    · exact pre_form r d h
  | tell _ r, d, h => by
    rcases List.mem_cons.mp h with rfl | h
    · exact ⟨_, _, rfl⟩
    · exact pre_form r d h
  | whn _ a b r, d, h => by
    rcases List.mem_cons.mp h with rfl | h
    · exact ⟨_, _, rfl⟩
    rcases List.mem_append.mp h with h | h
    · exact pre_form a d h
    rcases List.mem_append.mp h with h | h
    · exact pre_form b d h
    · exact pre_form r d h
  | tms _ a r, d, h => by
    rcases List.mem_cons.mp h with rfl | h
    · exact ⟨_, _, rfl⟩
    rcases List.mem_append.mp h with h | h
    · exact pre_form a d h
    · exact pre_form r d h
end Rws
/-! ### blocks_in, rows_within, rows_in, throws_in -/
structure BlkFn (Φ : Call) : Prop where
  wh : ∀ t x y S (Q : QD) (X : XD), Q (.tup [x, y]) S → Φ 82 [.tup [.str "when", t, x, y]] S Q X
  ti : ∀ n x S (Q : QD) (X : XD), Q (.tup [x]) S → Φ 82 [.tup [.str "times", n, x]] S Q X
  ot : ∀ (w : Str) xs S (Q : QD) (X : XD), w ≠ ("when" : String) → w ≠ ("times" : String) → Q (.tup []) S → Φ 82 [.tup (.str w :: xs)] S Q X
theorem at0 {d : D} {xs : List D} : atI (d :: xs) 0 = some d := by
  unfold atI ixN
  rw [if_pos (by decide), if_pos (by simp only [List.length_cons]; omega)]
  rfl
theorem blk_wh {G : GT} {Φ : Call} {t x y : D} {S : Sto} {Q : QD} {X : XD} (h : Q (.tup [x, y]) S) : wc G Φ f_blocks_in_87b1.body (endsD Q X) (startD 1 [.tup [.str "when", t, x, y]]) S := by
  unfold f_blocks_in_87b1
  show wc G Φ _ (endsD Q X) [some (D.tup [.str "when", t, x, y])] S
  refine wc_sq ?_; try simp only [DL.wcs, DL.wp, DL.ds, DL.dl, List.set, if_true, if_false, reduceCtorEq, Bool.false_eq_true, eq_self, DL.sz, true_and, DL.tp2, DL.prs, DL.isr, Bool.not_true, Bool.not_false]
  refine idx_tup at0 ?_
  try simp only [DL.wcs, DL.wp, DL.ds, DL.dl, List.set, if_true, if_false, reduceCtorEq, Bool.false_eq_true, eq_self, DL.sz, true_and, DL.tp2, DL.prs, DL.isr, Bool.not_true, Bool.not_false, decide_true]
  refine wc_sq ?_; try simp only [DL.wcs, DL.wp, DL.ds, DL.dl, List.set, if_true, if_false, reduceCtorEq, Bool.false_eq_true, eq_self, DL.sz, true_and, DL.tp2, DL.prs, DL.isr, Bool.not_true, Bool.not_false]
  refine idx_tup rfl (idx_tup rfl ?_)
  try simp only [DL.wcs, DL.wp, DL.ds, DL.dl, List.set, if_true, if_false, reduceCtorEq, Bool.false_eq_true, eq_self, DL.sz, true_and, DL.tp2, DL.prs, DL.isr, Bool.not_true, Bool.not_false]
  exact h
theorem blk_ti {G : GT} {Φ : Call} {n x : D} {S : Sto} {Q : QD} {X : XD} (h : Q (.tup [x]) S) : wc G Φ f_blocks_in_87b1.body (endsD Q X) (startD 1 [.tup [.str "times", n, x]]) S := by
  unfold f_blocks_in_87b1
  show wc G Φ _ (endsD Q X) [some (D.tup [.str "times", n, x])] S
  refine wc_sq ?_; try simp only [DL.wcs, DL.wp, DL.ds, DL.dl, List.set, if_true, if_false, reduceCtorEq, Bool.false_eq_true, eq_self, DL.sz, true_and, DL.tp2, DL.prs, DL.isr, Bool.not_true, Bool.not_false]
  refine idx_tup at0 ?_
  try simp only [DL.wcs, DL.wp, DL.ds, DL.dl, List.set, if_true, if_false, reduceCtorEq, Bool.false_eq_true, eq_self, DL.sz, true_and, DL.tp2, DL.prs, DL.isr, Bool.not_true, Bool.not_false, ofStr_inj, decide_eq_true_eq]
  refine (if_neg (by decide)).mpr ?_
  refine wc_sq ?_; try simp only [DL.wcs, DL.wp, DL.ds, DL.dl, List.set, if_true, if_false, reduceCtorEq, Bool.false_eq_true, eq_self, DL.sz, true_and, DL.tp2, DL.prs, DL.isr, Bool.not_true, Bool.not_false]
  refine idx_tup at0 ?_
  try simp only [DL.wcs, DL.wp, DL.ds, DL.dl, List.set, if_true, if_false, reduceCtorEq, Bool.false_eq_true, eq_self, DL.sz, true_and, DL.tp2, DL.prs, DL.isr, Bool.not_true, Bool.not_false, decide_true]
  refine wc_sq ?_; try simp only [DL.wcs, DL.wp, DL.ds, DL.dl, List.set, if_true, if_false, reduceCtorEq, Bool.false_eq_true, eq_self, DL.sz, true_and, DL.tp2, DL.prs, DL.isr, Bool.not_true, Bool.not_false]
  refine idx_tup rfl ?_
  try simp only [DL.wcs, DL.wp, DL.ds, DL.dl, List.set, if_true, if_false, reduceCtorEq, Bool.false_eq_true, eq_self, DL.sz, true_and, DL.tp2, DL.prs, DL.isr, Bool.not_true, Bool.not_false]
  exact h
theorem blk_ot {G : GT} {Φ : Call} {w : Str} {xs : List D} {S : Sto} {Q : QD} {X : XD} (h1 : w ≠ ("when" : String)) (h2 : w ≠ ("times" : String)) (h : Q (.tup []) S) : wc G Φ f_blocks_in_87b1.body (endsD Q X) (startD 1 [.tup (.str w :: xs)]) S := by
  unfold f_blocks_in_87b1
  show wc G Φ _ (endsD Q X) [some (D.tup (.str w :: xs))] S
  refine wc_sq ?_; try simp only [DL.wcs, DL.wp, DL.ds, DL.dl, List.set, if_true, if_false, reduceCtorEq, Bool.false_eq_true, eq_self, DL.sz, true_and, DL.tp2, DL.prs, DL.isr, Bool.not_true, Bool.not_false]
  refine idx_tup at0 ?_
  try simp only [DL.wcs, DL.wp, DL.ds, DL.dl, List.set, if_true, if_false, reduceCtorEq, Bool.false_eq_true, eq_self, DL.sz, true_and, DL.tp2, DL.prs, DL.isr, Bool.not_true, Bool.not_false, decide_eq_true_eq]
  rw [if_neg h1]
  refine wc_sq ?_; try simp only [DL.wcs, DL.wp, DL.ds, DL.dl, List.set, if_true, if_false, reduceCtorEq, Bool.false_eq_true, eq_self, DL.sz, true_and, DL.tp2, DL.prs, DL.isr, Bool.not_true, Bool.not_false]
  refine idx_tup at0 ?_
  try simp only [DL.wcs, DL.wp, DL.ds, DL.dl, List.set, if_true, if_false, reduceCtorEq, Bool.false_eq_true, eq_self, DL.sz, true_and, DL.tp2, DL.prs, DL.isr, Bool.not_true, Bool.not_false, decide_eq_true_eq]
  rw [if_neg h2]
  refine wc_sq ?_; try simp only [DL.wcs, DL.wp, DL.ds, DL.dl, List.set, if_true, if_false, reduceCtorEq, Bool.false_eq_true, eq_self, DL.sz, true_and, DL.tp2, DL.prs, DL.isr, Bool.not_true, Bool.not_false]
  exact h
def RowsFn (n : Nat) (Φ : Call) : Prop := ∀ (r : Rws) (S : Sto) (Q : QD) (X : XD), r.nest ≤ n → r.size ≤ 100000 → (∀ p S', S p = none → S' p = some (.lst r.pre) → Keep [] S S' → Q (.ref p) S') → Φ 83 [.tup r.l] S Q X
theorem rows_ok {G : GT} {Φ : Call} {n : Nat} (hb : BlkFn Φ) (hr : ∀ m, n = m + 1 → RowsFn m Φ) {r : Rws} {S : Sto} {Q : QD} {X : XD} (hn : r.nest ≤ n) (hs : r.size ≤ 100000) (k : ∀ p S', S p = none → S' p = some (.lst r.pre) → Keep [] S S' → Q (.ref p) S') :
    wc G Φ f_rows_within_fee7.body (endsD Q X) (startD 4 [.tup r.l]) S := by
  unfold f_rows_within_fee7
  show wc G Φ _ (endsD Q X) [some (D.tup r.l), none, none, none] S
  have hsz : 1000000 < sizeLine := by decide
  refine wc_sq ?_; try simp only [DL.wcs, DL.wp, DL.ds, DL.dl, List.set, if_true, if_false, reduceCtorEq, Bool.false_eq_true, eq_self, DL.sz, true_and, DL.tp2, DL.prs, DL.isr, Bool.not_true, Bool.not_false]
  intro p hp
  refine wc_sq ?_; try simp only [DL.wcs, DL.wp, DL.ds, DL.dl, List.set, if_true, if_false, reduceCtorEq, Bool.false_eq_true, eq_self, DL.sz, true_and, DL.tp2, DL.prs, DL.isr, Bool.not_true, Bool.not_false]
  refine for_inv (fun i ρ S' => ∃ (s1 s2 : Rws) (o2 o3 : Option D), ρ = [some (D.tup r.l), some (D.ref p), o2, o3] ∧ r = s1.app s2 ∧ s1.l.length = i ∧ S' p = some (.lst s1.pre) ∧ Keep [] S S') ⟨.nil, r, none, none, rfl, rfl, rfl, su_same, Keep.new hp⟩ (fun _ _ _ _ => trivial) ?_ ?_
  · rintro i d ρ S1 N hx ⟨s1, s2, o2, o3, rfl, er, el, e1, K1⟩ hN
    have hx2 : s2.l[0]? = some d := by
      rw [er, Rws.l_app, List.getElem?_append_right (by omega), el, Nat.sub_self] at hx
      exact hx
    have hsz1 : s1.size + s2.size ≤ 100000 := by rw [← Rws.size_app, ← er]; exact hs
    have hpl : s1.pre.length < sizeLine := by rw [Rws.pre_len]; omega
    have hne : s2.nest ≤ n := by
      have := Rws.nest_app s1 s2
      rw [← er] at this
      omega
    try simp only [DL.wcs, DL.wp, DL.ds, DL.dl, List.set, if_true, if_false, reduceCtorEq, Bool.false_eq_true, eq_self, DL.sz, true_and, DL.tp2, DL.prs, DL.isr, Bool.not_true, Bool.not_false]
    refine wc_sq ?_; try simp only [DL.wcs, DL.wp, DL.ds, DL.dl, List.set, if_true, if_false, reduceCtorEq, Bool.false_eq_true, eq_self, DL.sz, true_and, DL.tp2, DL.prs, DL.isr, Bool.not_true, Bool.not_false]
    refine ⟨⟨_, lstOf_of e1⟩, _, lstOf_of e1, hpl, ?_⟩
    have e2 : su S1 p (.lst (s1.pre ++ [d])) p = some (.lst (s1.pre ++ [d])) := su_same
    have K2 : Keep [] S (su S1 p (.lst (s1.pre ++ [d]))) := keep_acc K1 hp Keep.refl
    generalize su S1 p (.lst (s1.pre ++ [d])) = S2 at e2 K2
    refine wc_sq ?_; try simp only [DL.wcs, DL.wp, DL.ds, DL.dl, List.set, if_true, if_false, reduceCtorEq, Bool.false_eq_true, eq_self, DL.sz, true_and, DL.tp2, DL.prs, DL.isr, Bool.not_true, Bool.not_false]
    have ext : ∀ (a : Rws) (S3 : Sto) (acc : List D) (N' : En → Sto → Prop) (ρ3 : En) (e : DE), a.nest + 1 ≤ n → a.size + acc.length ≤ 100000 → S3 p = some (.lst acc) → Keep [] S S3 → ρ3[1]? = some (some (D.ref p)) → ρ3[3]? = some (some (.tup a.l)) →
        (∀ S4, S4 p = some (.lst (acc ++ a.pre)) → Keep [] S S4 → N' ρ3 S4) →
        wc G Φ (.expr (.mth .extend (.var 1) (.cons (.call 83 (.cons (.var 3) .nil)) .nil))) { e with nx := N' } ρ3 S3 := by
      intro a S3 acc N' ρ3 e ha hz e3 K3 r1 r3 hN'
      obtain ⟨n', rfl⟩ : ∃ n', n = n' + 1 := ⟨n - 1, by omega⟩
      try simp only [DL.wcs, DL.wp, DL.ds, DL.dl, List.set, if_true, if_false, reduceCtorEq, Bool.false_eq_true, eq_self, DL.sz, true_and, DL.tp2, DL.prs, DL.isr, Bool.not_true, Bool.not_false, r1, r3]
      refine ⟨⟨_, lstOf_of e3⟩, hr n' rfl a _ _ _ (by omega) (by omega) fun p2 S4 hp2 e4 K4 => ?_⟩
      try simp only [DL.wcs, DL.wp, DL.ds, DL.dl, List.set, if_true, if_false, reduceCtorEq, Bool.false_eq_true, eq_self, DL.sz, true_and, DL.tp2, DL.prs, DL.isr, Bool.not_true, Bool.not_false]
      have ep := K4 _ _ (by simp) e3
      refine ⟨_, _, lstOf_of ep, lstOf_of e4, by rw [Rws.pre_len]; omega, ?_⟩
      exact hN' _ su_same (keep_acc K3 hp K4)
    have fin : ∀ (one s2' : Rws) S3 o3', s2 = one.app s2' → one.l = [d] → S3 p = some (.lst (s1.pre ++ one.pre)) → Keep [] S S3 → N [some (D.tup r.l), some (D.ref p), some d, o3'] S3 := by
      intro one s2' S3 o3' es ol e3 K3
      refine hN _ _ ⟨s1.app one, s2', _, _, rfl, by rw [er, es, Rws.app_assoc], by rw [Rws.l_app, List.length_append, el, ol]; rfl, by rw [Rws.pre_app]; exact e3, K3⟩
    cases s2 with
    | nil => cases hx2
    | thr x hh s2' =>
      cases hx2
      have hot : ∀ S (Q : QD) (X : XD), Q (.tup []) S → Φ 82 [hh.d x] S Q X := fun S Q X h => by
        rw [Th.d_eq]
        exact hb.ot _ _ _ _ _ (Th.tag_ne hh).1 (Th.tag_ne hh).2 h
      refine hot _ _ _ ?_
      try simp only [DL.wcs, DL.wp, DL.ds, DL.dl, List.set, if_true, if_false, reduceCtorEq, Bool.false_eq_true, eq_self, DL.sz, true_and, DL.tp2, DL.prs, DL.isr, Bool.not_true, Bool.not_false]
      refine ⟨trivial, ?_⟩
      try simp only [DL.wcs, DL.wp, DL.ds, DL.dl, List.set, if_true, if_false, reduceCtorEq, Bool.false_eq_true, eq_self, DL.sz, true_and, DL.tp2, DL.prs, DL.isr, Bool.not_true, Bool.not_false]
      exact fin (.thr x hh .nil) s2' _ _ rfl rfl e2 K2
    | lt x t s2' =>
      cases hx2
      refine hb.ot _ _ _ _ _ (by rw [ne_eq, ofStr_inj]; decide) (by rw [ne_eq, ofStr_inj]; decide) ?_
      try simp only [DL.wcs, DL.wp, DL.ds, DL.dl, List.set, if_true, if_false, reduceCtorEq, Bool.false_eq_true, eq_self, DL.sz, true_and, DL.tp2, DL.prs, DL.isr, Bool.not_true, Bool.not_false]
      refine ⟨trivial, ?_⟩
      try simp only [DL.wcs, DL.wp, DL.ds, DL.dl, List.set, if_true, if_false, reduceCtorEq, Bool.false_eq_true, eq_self, DL.sz, true_and, DL.tp2, DL.prs, DL.isr, Bool.not_true, Bool.not_false]
      exact fin (.lt x t .nil) s2' _ _ rfl rfl e2 K2
    | tell t s2' =>
      cases hx2
      refine hb.ot _ _ _ _ _ (by rw [ne_eq, ofStr_inj]; decide) (by rw [ne_eq, ofStr_inj]; decide) ?_
      try simp only [DL.wcs, DL.wp, DL.ds, DL.dl, List.set, if_true, if_false, reduceCtorEq, Bool.false_eq_true, eq_self, DL.sz, true_and, DL.tp2, DL.prs, DL.isr, Bool.not_true, Bool.not_false]
      refine ⟨trivial, ?_⟩
      try simp only [DL.wcs, DL.wp, DL.ds, DL.dl, List.set, if_true, if_false, reduceCtorEq, Bool.false_eq_true, eq_self, DL.sz, true_and, DL.tp2, DL.prs, DL.isr, Bool.not_true, Bool.not_false]
      exact fin (.tell t .nil) s2' _ _ rfl rfl e2 K2
    | whn t a b s2' =>
      cases hx2
      have sz : a.size + b.size + s1.size + 1 ≤ 100000 := by simp only [Rws.size] at hsz1; omega
      have nn : max a.nest b.nest + 1 ≤ n := by simp only [Rws.nest] at hne; omega
      refine hb.wh _ _ _ _ _ _ ?_
      try simp only [DL.wcs, DL.wp, DL.ds, DL.dl, List.set, if_true, if_false, reduceCtorEq, Bool.false_eq_true, eq_self, DL.sz, true_and, DL.tp2, DL.prs, DL.isr, Bool.not_true, Bool.not_false]
      refine ⟨trivial, ?_⟩
      try simp only [DL.wcs, DL.wp, DL.ds, DL.dl, List.set, if_true, if_false, reduceCtorEq, Bool.false_eq_true, eq_self, DL.sz, true_and, DL.tp2, DL.prs, DL.isr, Bool.not_true, Bool.not_false]
      refine wc_sq ?_
      refine ext a S2 _ _ _ _ (by omega) (by rw [List.length_append, Rws.pre_len]; simp only [List.length_cons, List.length_nil]; omega) e2 K2 rfl rfl fun S3 e3 K3 => ?_
      try simp only [DL.wcs, DL.wp, DL.ds, DL.dl, List.set, if_true, if_false, reduceCtorEq, Bool.false_eq_true, eq_self, DL.sz, true_and, DL.tp2, DL.prs, DL.isr, Bool.not_true, Bool.not_false]
      refine ⟨trivial, ?_⟩
      try simp only [DL.wcs, DL.wp, DL.ds, DL.dl, List.set, if_true, if_false, reduceCtorEq, Bool.false_eq_true, eq_self, DL.sz, true_and, DL.tp2, DL.prs, DL.isr, Bool.not_true, Bool.not_false]
      refine wc_sq ?_
      refine ext b S3 _ _ _ _ (by omega) (by rw [List.length_append, List.length_append, Rws.pre_len, Rws.pre_len]; simp only [List.length_cons, List.length_nil]; omega) e3 K3 rfl rfl fun S4 e4 K4 => ?_
      try simp only [DL.wcs, DL.wp, DL.ds, DL.dl, List.set, if_true, if_false, reduceCtorEq, Bool.false_eq_true, eq_self, DL.sz, true_and, DL.tp2, DL.prs, DL.isr, Bool.not_true, Bool.not_false]
      refine ⟨trivial, ?_⟩
      try simp only [DL.wcs, DL.wp, DL.ds, DL.dl, List.set, if_true, if_false, reduceCtorEq, Bool.false_eq_true, eq_self, DL.sz, true_and, DL.tp2, DL.prs, DL.isr, Bool.not_true, Bool.not_false]
      exact fin (.whn t a b .nil) s2' _ _ rfl rfl (by rw [e4]; simp [Rws.pre]) K4
    | tms m a s2' =>
      cases hx2
      have sz : a.size + s1.size + 1 ≤ 100000 := by simp only [Rws.size] at hsz1; omega
      have nn : a.nest + 1 ≤ n := by simp only [Rws.nest] at hne; omega
      refine hb.ti _ _ _ _ _ ?_
      try simp only [DL.wcs, DL.wp, DL.ds, DL.dl, List.set, if_true, if_false, reduceCtorEq, Bool.false_eq_true, eq_self, DL.sz, true_and, DL.tp2, DL.prs, DL.isr, Bool.not_true, Bool.not_false]
      refine ⟨trivial, ?_⟩
      try simp only [DL.wcs, DL.wp, DL.ds, DL.dl, List.set, if_true, if_false, reduceCtorEq, Bool.false_eq_true, eq_self, DL.sz, true_and, DL.tp2, DL.prs, DL.isr, Bool.not_true, Bool.not_false]
      refine wc_sq ?_
      refine ext a S2 _ _ _ _ (by omega) (by rw [List.length_append, Rws.pre_len]; simp only [List.length_cons, List.length_nil]; omega) e2 K2 rfl rfl fun S3 e3 K3 => ?_
      try simp only [DL.wcs, DL.wp, DL.ds, DL.dl, List.set, if_true, if_false, reduceCtorEq, Bool.false_eq_true, eq_self, DL.sz, true_and, DL.tp2, DL.prs, DL.isr, Bool.not_true, Bool.not_false]
      refine ⟨trivial, ?_⟩
      try simp only [DL.wcs, DL.wp, DL.ds, DL.dl, List.set, if_true, if_false, reduceCtorEq, Bool.false_eq_true, eq_self, DL.sz, true_and, DL.tp2, DL.prs, DL.isr, Bool.not_true, Bool.not_false]
      exact fin (.tms m a .nil) s2' _ _ rfl rfl (by rw [e3]; simp [Rws.pre]) K3
  · rintro ρ S1 ⟨s1, s2, o2, o3, rfl, er, el, e1, K1⟩
    have e2 : s2 = .nil := by
      have h := Rws.l_app s1 s2
      rw [← er] at h
      have h2 : s2.l.length = 0 := by
        have := congrArg List.length h
        rw [List.length_append] at this
        omega
      cases s2 <;> first | rfl | cases h2
    rw [e2, Rws.app_nil] at er
    rw [← er] at e1
    refine wc_sq ?_; try simp only [DL.wcs, DL.wp, DL.ds, DL.dl, List.set, if_true, if_false, reduceCtorEq, Bool.false_eq_true, eq_self, DL.sz, true_and, DL.tp2, DL.prs, DL.isr, Bool.not_true, Bool.not_false]
    exact k p S1 hp e1 K1
end DL

set_option Elab.async false
set_option linter.all false
set_option maxRecDepth 100000
/-! LE: data that are alike; all rows, throws, values (k19) -/
namespace DL
open PySem PySem.Spec PyProof.Rows L2

/-! ### data without objects, at most n deep -/
def fOk : D → Prop
  | .non => True
  | .bl _ => True
  | .int _ => True
  | .str x => PyData.strOk x = true
  | _ => False
def Pu : Nat → D → Prop
  | 0, d => fOk d
  | n + 1, .tup xs => ∀ x ∈ xs, Pu n x
  | _ + 1, d => fOk d
theorem Pu.flat : ∀ {n : Nat} {d : D}, fOk d → Pu n d
  | 0, _, h => h
  | n + 1, d, h => by cases d <;> first | exact h | exact h.elim
theorem Pu.up : ∀ {n : Nat} {d : D}, Pu n d → Pu (n + 1) d
  | 0, d, h => Pu.flat h
  | n + 1, d, h => by
    cases d <;> first | exact h | skip
    exact fun x hx => Pu.up (h x hx)
theorem Pu.mono {n m : Nat} {d : D} (h : Pu n d) (hm : n ≤ m) : Pu m d := by
  obtain ⟨k, rfl⟩ : ∃ k, m = n + k := ⟨m - n, by omega⟩
  clear hm
  induction k with
  | zero => exact h
  | succ k ih => exact Pu.up ih
theorem fOk.data {d : D} (h : fOk d) : ∃ p : PyData, (∀ S, DP S d p) ∧ p.canLay0 = true ∧ p.depth ≤ 0 := by
  cases d with
  | non => exact ⟨.none, fun S => .non, by simp [PyData.canLay0], by simp [PyData.depth]⟩
  | bl b => exact ⟨.bool b, fun S => .bl b, by simp [PyData.canLay0], by simp [PyData.depth]⟩
  | int i => exact ⟨.int i, fun S => .int i, by simp [PyData.canLay0], by simp [PyData.depth]⟩
  | str x =>
    have h' : PyData.strOk x = true := h
    exact ⟨.str x, fun S => .str x, by simpa [PyData.canLay0] using h', by simp [PyData.depth]⟩
  | _ => exact h.elim
theorem puAll {n : Nat} (ih : ∀ d : D, Pu n d → ∃ p : PyData, (∀ S, DP S d p) ∧ p.canLay0 = true ∧ p.depth ≤ n) : ∀ xs : List D, (∀ x ∈ xs, Pu n x) →
    ∃ ps : List PyData, (∀ S, DPs S xs ps) ∧ PyData.canLayAll0 ps = true ∧ PyData.depthAll ps ≤ n
  | [], _ => ⟨[], fun S => .nil, by simp [PyData.canLayAll0], by simp [PyData.depthAll]⟩
  | x :: xs, h => by
    obtain ⟨p, h1, h2, h3⟩ := ih x (h x List.mem_cons_self)
    obtain ⟨ps, g1, g2, g3⟩ := puAll ih xs fun y hy => h y (List.mem_cons_of_mem _ hy)
    exact ⟨p :: ps, fun S => .cons (h1 S) (g1 S), by simp [PyData.canLayAll0, h2, g2], by simp only [PyData.depthAll]; omega⟩
theorem Pu.data : ∀ {n : Nat} {d : D}, Pu n d → ∃ p : PyData, (∀ S, DP S d p) ∧ p.canLay0 = true ∧ p.depth ≤ n
  | 0, d, h => fOk.data h
  | n + 1, d, h => by
    cases d with
    | tup xs =>
      obtain ⟨ps, g1, g2, g3⟩ := puAll (fun d h => Pu.data h) xs h
      exact ⟨.tuple ps, fun S => .tup (g1 S), by simpa [PyData.canLay0] using g2, by simp only [PyData.depth]; omega⟩
    | _ =>
      obtain ⟨p, h1, h2, h3⟩ := fOk.data h
      exact ⟨p, h1, h2, by omega⟩
/-- two lists that hold the same -/
theorem eq_lists {p q : Addr} {xs : List D} {n : Nat} {S : Sto} {Q : Bool → Prop} (e1 : S p = some (.lst xs)) (e2 : S q = some (.lst xs)) (h : ∀ x ∈ xs, Pu n x) (hn : n < 64) (k : Q true) : eqD (.ref p) (.ref q) S Q := by
  obtain ⟨ps, g1, g2, g3⟩ := puAll (fun d h => Pu.data h) xs h
  have sh : SeqAt.shaped (.list ps) = true := by
    unfold SeqAt.shaped
    rw [Bool.and_eq_true]
    exact ⟨by simpa [PyData.canLay0] using g2, decide_eq_true (by show PyData.depthAll ps + 1 ≤ 64; omega)⟩
  refine ⟨.list ps, .list ps, .lst e1 (g1 S), .lst e2 (g1 S), sh, sh, ?_⟩
  have e : PyData.eqv (.list ps) (.list ps) = true := SeqAt.eqv_refl _ (by simpa [PyData.canLay0] using g2)
  rw [e]
  exact k
theorem ne_lists {p q : Addr} {xs : List D} {n : Nat} {S : Sto} {Q : Bool → Prop} (e1 : S p = some (.lst xs)) (e2 : S q = some (.lst xs)) (h : ∀ x ∈ xs, Pu n x) (hn : n < 64) (k : Q false) : cmpD .NotEq (.ref p) (.ref q) S Q :=
  eq_lists (Q := fun b => Q (!b)) e1 e2 h hn k
theorem NmOk.strOk {x : Str} (h : NmOk x) : PyData.strOk x = true := by
  unfold PyData.strOk
  rw [Array.all_eq_true]
  intro i hi
  have := h.2 (x.cps[i]) (by rw [← Array.getElem_toList]; exact List.getElem_mem _)
  simp only [decide_eq_true_eq]
  omega
theorem Pu.str {n : Nat} {x : Str} (h : NmOk x) : Pu n (.str x) := Pu.flat (show fOk (.str x) from h.strOk)
theorem lit_ok {s : String} (h : (Str.ofString s).cps.all (· < 0x110000) = true) : fOk (.str s) := h
theorem Tm.pu : ∀ t : Tm, t.Good → (∀ x ∈ t.names, NmOk x) → Pu t.deep t.d
  | .num i, _, _ => by
    intro x hx
    simp only [List.mem_cons, List.not_mem_nil, or_false] at hx
    rcases hx with rfl | rfl
    · exact lit_ok (by decide +kernel)
    · trivial
  | .name y, _, h => by
    intro x hx
    simp only [List.mem_cons, List.not_mem_nil, or_false] at hx
    rcases hx with rfl | rfl
    · exact lit_ok (by decide +kernel)
    · exact (h y (List.mem_singleton.mpr rfl)).strOk
  | .op c a b, g, h => by
    have ha := Tm.pu a g.2.1 fun x hx => h x (List.mem_append_left _ hx)
    have hb := Tm.pu b g.2.2 fun x hx => h x (List.mem_append_right _ hx)
    have e : (Tm.op c a b).deep = max a.deep b.deep + 1 := by simp only [Tm.deep]; omega
    rw [e]
    intro x hx
    simp only [List.mem_cons, List.not_mem_nil, or_false] at hx
    rcases hx with rfl | rfl | rfl | rfl
    · exact Pu.flat (lit_ok (by decide +kernel))
    · refine Pu.flat ?_
      have hc := g.1
      simp only [List.mem_cons, List.not_mem_nil, or_false] at hc
      show PyData.strOk ⟨#[c]⟩ = true
      rcases hc with rfl | rfl | rfl | rfl | rfl <;> decide +kernel
    · exact ha.mono (by omega)
    · exact hb.mono (by omega)
theorem pu_ints {n : Nat} (s : List Int) : Pu (n + 1) (sumD s) := fun x hx => by
  obtain ⟨z, _, rfl⟩ := List.mem_map.mp hx
  exact Pu.flat trivial
theorem pu_sums {n : Nat} (ss : List (List Int)) : Pu (n + 2) (sumsD ss) := fun x hx => by
  obtain ⟨z, _, rfl⟩ := List.mem_map.mp hx
  exact pu_ints z
theorem pu_fr {n : Nat} (p : Int × Int) : Pu (n + 1) (frD p) := fun x hx => by
  simp only [List.mem_cons, List.not_mem_nil, or_false] at hx
  rcases hx with rfl | rfl <;> exact Pu.flat trivial
theorem pu_cons {n : Nat} {x : D} {xs : List D} (h : Pu n x) (t : Pu (n + 1) (.tup xs)) : Pu (n + 1) (.tup (x :: xs)) := fun y hy => by
  rcases List.mem_cons.mp hy with rfl | hy
  · exact h
  · exact t y hy
theorem pu_nil {n : Nat} : Pu (n + 1) (.tup []) := fun _ h => nomatch h
theorem Th.pu {x : Str} (hx : NmOk x) {n : Nat} : ∀ h : Th, Pu (n + 3) (h.d x)
  | .ladder s st lo hi => pu_cons (Pu.flat (lit_ok (by decide +kernel))) (pu_cons (Pu.str hx) (pu_cons (pu_ints s) (pu_cons (pu_fr st) (pu_cons (Pu.flat trivial) (pu_cons (Pu.flat trivial) pu_nil)))))
  | .flat s z lo hi => pu_cons (Pu.flat (lit_ok (by decide +kernel))) (pu_cons (Pu.str hx) (pu_cons (pu_ints s) (pu_cons (Pu.flat trivial) (pu_cons (Pu.flat trivial) (pu_cons (Pu.flat trivial) pu_nil)))))
  | .choose ss st lo hi => pu_cons (Pu.flat (lit_ok (by decide +kernel))) (pu_cons (Pu.str hx) (pu_cons (pu_sums ss) (pu_cons (pu_fr st) (pu_cons (Pu.flat trivial) (pu_cons (Pu.flat trivial) pu_nil)))))
  | .first mk st st2 ss lo hi => pu_cons (Pu.flat (lit_ok (by decide +kernel))) (pu_cons (Pu.str hx) (pu_cons (Pu.flat trivial) (pu_cons (pu_fr st) (pu_cons (pu_fr st2) (pu_cons (pu_sums ss) (pu_cons (Pu.flat trivial) (pu_cons (Pu.flat trivial) pu_nil)))))))
theorem TOk.pu {t : Tm} {k : List Str} (h : TOk t k) (hk : ∀ x ∈ k, NmOk x) : Pu 6 t.d := (t.pu h.1 fun x hx => hk x (h.2.1 x hx)).mono h.2.2
theorem nm_snoc {k : List Str} {x : Str} (hk : ∀ x ∈ k, NmOk x) (hx : NmOk x) : ∀ y ∈ k ++ [x], NmOk y := fun y hy => by
  rcases List.mem_append.mp hy with hy | hy
  · exact hk y hy
  · rw [List.mem_singleton.mp hy]; exact hx
namespace Rws
theorem pu_whn {t a b : D} {n : Nat} (ht : Pu (n + 7) t) (ha : Pu (n + 7) a) (hb : Pu (n + 7) b) : Pu (n + 8) (.tup [.str "when", t, a, b]) :=
  pu_cons (Pu.flat (lit_ok (by decide +kernel))) (pu_cons ht (pu_cons ha (pu_cons hb pu_nil)))
theorem pu_l {m : Int} : ∀ (r : Rws) (k : List Str), r.Ok m k → (∀ x ∈ k, NmOk x) → ∀ d ∈ r.l, Pu (8 + 2 * r.nest) d
  | nil, _, _, _, _, h => nomatch h
  | thr x hh r, k, o, hk, d, h => by
    rcases List.mem_cons.mp h with rfl | h
    · exact (hh.pu o.1 (n := 0)).mono (by omega)
    · exact pu_l r _ o.2.2 (nm_snoc hk o.1) d h
  | lt x t r, k, o, hk, d, h => by
    rcases List.mem_cons.mp h with rfl | h
    · exact (pu_cons (n := 6) (Pu.flat (lit_ok (by decide +kernel))) (pu_cons (Pu.str o.1) (pu_cons (o.2.1.pu hk) pu_nil))).mono (by omega)
    · exact pu_l r _ o.2.2 (nm_snoc hk o.1) d h
  | tell t r, k, o, hk, d, h => by
    rcases List.mem_cons.mp h with rfl | h
    · exact (pu_cons (n := 6) (Pu.flat (lit_ok (by decide +kernel))) (pu_cons (o.1.pu hk) pu_nil)).mono (by omega)
    · exact pu_l r _ o.2 hk d h
  | whn t a b r, k, o, hk, d, h => by
    have ha := pu_l a k o.2.1 hk
    have hb := pu_l b k o.2.2.1 hk
    rcases List.mem_cons.mp h with rfl | h
    · have hA : Pu (8 + 2 * max a.nest b.nest + 1) (.tup a.l) := fun x hx => (ha x hx).mono (by omega)
      have hB : Pu (8 + 2 * max a.nest b.nest + 1) (.tup b.l) := fun x hx => (hb x hx).mono (by omega)
      refine Pu.mono (n := 8 + 2 * max a.nest b.nest + 2) ?_ (by simp only [nest]; omega)
      exact pu_cons (Pu.flat (lit_ok (by decide +kernel))) (pu_cons ((o.1.pu hk).mono (by omega)) (pu_cons hA (pu_cons hB pu_nil)))
    · refine (pu_l r _ o.2.2.2.2 (fun y hy => nf_ok a k o.2.1 hk y (List.mem_filter.mp hy).1) d h).mono (by simp only [nest]; omega)
  | tms n a r, k, o, hk, d, h => by
    have ha := pu_l a k o.2.2.1 hk
    rcases List.mem_cons.mp h with rfl | h
    · have hA : Pu (8 + 2 * a.nest + 1) (.tup a.l) := fun x hx => ha x hx
      refine Pu.mono (n := 8 + 2 * a.nest + 2) ?_ (by simp only [nest]; omega)
      exact pu_cons (Pu.flat (lit_ok (by decide +kernel))) (pu_cons (Pu.flat trivial) (pu_cons hA pu_nil))
    · refine (pu_l r _ o.2.2.2 (nf_ok a k o.2.2.1 hk) d h).mono (by simp only [nest]; omega)
theorem pu_pre {m : Int} : ∀ (r : Rws) (k : List Str), r.Ok m k → (∀ x ∈ k, NmOk x) → ∀ d ∈ r.pre, Pu (8 + 2 * r.nest) d
  | nil, _, _, _, _, h => nomatch h
  | thr x hh r, k, o, hk, d, h => by
    rcases List.mem_cons.mp h with rfl | h
    · exact pu_l (thr x hh r) k o hk _ List.mem_cons_self
    · exact pu_pre r _ o.2.2 (nm_snoc hk o.1) d h
  | lt x t r, k, o, hk, d, h => by
    rcases List.mem_cons.mp h with rfl | h
    · exact pu_l (lt x t r) k o hk _ List.mem_cons_self
    · exact pu_pre r _ o.2.2 (nm_snoc hk o.1) d h
  | tell t r, k, o, hk, d, h => by
    rcases List.mem_cons.mp h with rfl | h
    · exact pu_l (tell t r) k o hk _ List.mem_cons_self
    · exact pu_pre r _ o.2 hk d h
  | whn t a b r, k, o, hk, d, h => by
    rcases List.mem_cons.mp h with rfl | h
    · exact pu_l (whn t a b r) k o hk _ List.mem_cons_self
    rcases List.mem_append.mp h with h | h
    · exact (pu_pre a k o.2.1 hk d h).mono (by simp only [nest]; omega)
    rcases List.mem_append.mp h with h | h
    · exact (pu_pre b k o.2.2.1 hk d h).mono (by simp only [nest]; omega)
    · refine (pu_pre r _ o.2.2.2.2 (fun y hy => nf_ok a k o.2.1 hk y (List.mem_filter.mp hy).1) d h).mono (by simp only [nest]; omega)
  | tms n a r, k, o, hk, d, h => by
    rcases List.mem_cons.mp h with rfl | h
    · exact pu_l (tms n a r) k o hk _ List.mem_cons_self
    rcases List.mem_append.mp h with h | h
    · exact (pu_pre a k o.2.2.1 hk d h).mono (by simp only [nest]; omega)
    · refine (pu_pre r _ o.2.2.2 (nf_ok a k o.2.2.1 hk) d h).mono (by simp only [nest]; omega)
end Rws
end DL

set_option Elab.async false
set_option linter.all false
set_option maxRecDepth 100000
/-! LF: law k19, part by part -/
namespace DL
open PySem PySem.Spec PyProof.Rows L2

def RowsInFn (Φ : Call) : Prop := ∀ (ks : List Str) (r : Rws) (S : Sto) (Q : QD) (X : XD), r.nest ≤ 4 → r.size ≤ 100000 → (∀ p S', S p = none → S' p = some (.lst r.pre) → Keep [] S S' → Q (.ref p) S') → Φ 84 [progD ks r] S Q X
theorem rows_in_ok {G : GT} {Φ : Call} (hr : RowsFn 4 Φ) {ks : List Str} {r : Rws} {S : Sto} {Q : QD} {X : XD} (hn : r.nest ≤ 4) (hs : r.size ≤ 100000) (k : ∀ p S', S p = none → S' p = some (.lst r.pre) → Keep [] S S' → Q (.ref p) S') :
    wc G Φ f_rows_in_c768.body (endsD Q X) (startD 1 [progD ks r]) S := by
  unfold f_rows_in_c768
  show wc G Φ _ (endsD Q X) [some (D.tup [.tup (ks.map D.str), .tup r.l])] S
  refine wc_sq ?_; try simp only [DL.wcs, DL.wp, DL.ds, DL.dl, List.set, if_true, if_false, reduceCtorEq, Bool.false_eq_true, eq_self, DL.sz, true_and, DL.tp2, DL.prs, DL.isr, Bool.not_true, Bool.not_false]
  refine idx_tup rfl ?_
  exact hr r S _ _ hn hs k
def isT : D → Bool
  | .tup (.str w :: _) => decide (w ∈ throwsW)
  | _ => false
def ThrowsInFn (Φ : Call) : Prop := ∀ (ks : List Str) (r : Rws) (S : Sto) (Q : QD) (X : XD), r.nest ≤ 4 → r.size ≤ 100000 → (∀ p S', S p = none → S' p = some (.lst (r.pre.filter isT)) → Keep [] S S' → Q (.ref p) S') → Φ 85 [progD ks r] S Q X
theorem throws_in_ok {G : GT} {Φ : Call} (hG : G.cs.lookup (Str.ofString "THROWS") = some (.tup (throwsW.map D.str))) (hr : RowsInFn Φ) {ks : List Str} {r : Rws} {S : Sto} {Q : QD} {X : XD} (hn : r.nest ≤ 4) (hs : r.size ≤ 100000) (k : ∀ p S', S p = none → S' p = some (.lst (r.pre.filter isT)) → Keep [] S S' → Q (.ref p) S') :
    wc G Φ f_throws_in_1e3b.body (endsD Q X) (startD 2 [progD ks r]) S := by
  unfold f_throws_in_1e3b
  show wc G Φ _ (endsD Q X) [some (progD ks r), none] S
  have hsz : 1000000 < sizeLine := by decide
  refine wc_sq ?_; try simp only [DL.wcs, DL.wp, DL.ds, DL.dl, List.set, if_true, if_false, reduceCtorEq, Bool.false_eq_true, eq_self, DL.sz, true_and, DL.tp2, DL.prs, DL.isr, Bool.not_true, Bool.not_false]
  refine hr ks r S _ _ hn hs fun q S1 hq e1 K1 => ?_
  refine ⟨_, lstOf_of e1, fun p hp => ?_⟩
  have nqp : q ≠ p := sne e1 hp
  refine lc_inv (fun i acc S' => Keep [] S S' ∧ S' q = some (.lst r.pre) ∧ S' p = some (.lst acc) ∧ acc = (r.pre.take i).filter isT) ⟨K1.trans (Keep.new hp), by rw [su_ne nqp]; exact e1, su_same, rfl⟩ (fun _ _ _ h => lstOf_of h.2.1) ?_ ?_
  · rintro i d acc S2 N hx ⟨K2, eq2, ep2, rfl⟩ hN
    obtain ⟨w, xs, rfl⟩ := Rws.pre_form r d (List.mem_of_getElem? hx)
    have tk : r.pre.take (i + 1) = r.pre.take i ++ [.tup (.str w :: xs)] := by rw [List.take_add_one, hx]; rfl
    have hpS : S p = none := K1.none_of hp (by simp)
    try simp only [DL.wcs, DL.wp, DL.ds, DL.dl, List.set, if_true, if_false, reduceCtorEq, Bool.false_eq_true, eq_self, DL.sz, true_and, DL.tp2, DL.prs, DL.isr, Bool.not_true, Bool.not_false]
    refine idx_tup at0 ⟨_, hG, ?_⟩
    try simp only [DL.wcs, DL.wp, DL.ds, DL.dl, List.set, if_true, if_false, reduceCtorEq, Bool.false_eq_true, eq_self, DL.sz, true_and, DL.tp2, DL.prs, DL.isr, Bool.not_true, Bool.not_false]
    refine in_strsT (ys := throwsW) ?_
    try simp only [DL.wcs, DL.wp, DL.ds, DL.dl, List.set, if_true, if_false, reduceCtorEq, Bool.false_eq_true, eq_self, DL.sz, true_and, DL.tp2, DL.prs, DL.isr, Bool.not_true, Bool.not_false, decide_eq_true_eq]
    by_cases hw : w ∈ throwsW
    · rw [if_pos hw]
      have ln : ((r.pre.take i).filter isT).length < sizeLine := by
        have l1 := List.length_filter_le isT (r.pre.take i)
        have l2 : (r.pre.take i).length ≤ r.pre.length := by rw [List.length_take]; omega
        rw [Rws.pre_len] at l2
        omega
      refine ⟨_, lstOf_of ep2, ln, hN ((r.pre.take i).filter isT ++ [.tup (.str w :: xs)]) _ ⟨keep_acc K2 hpS Keep.refl, by rw [su_ne nqp]; exact eq2, su_same, ?_⟩⟩
      rw [tk, List.filter_append]
      simp [isT, hw]
    · rw [if_neg hw]
      refine hN ((r.pre.take i).filter isT) _ ⟨K2, eq2, ep2, ?_⟩
      rw [tk, List.filter_append]
      simp [isT, hw]
  · rintro acc S2 ⟨K2, eq2, ep2, rfl⟩
    rw [List.take_length] at ep2
    try simp only [DL.wcs, DL.wp, DL.ds, DL.dl, List.set, if_true, if_false, reduceCtorEq, Bool.false_eq_true, eq_self, DL.sz, true_and, DL.tp2, DL.prs, DL.isr, Bool.not_true, Bool.not_false]
    exact k p S2 (K1.none_of hp (by simp)) ep2 K2
def AllFn (Φ : Call) : Prop := ∀ (r : Rws) (S : Sto) (Q : QD) (X : XD), r.size ≤ 100000 → (∀ p S', S p = none → S' p = some (.lst r.pre) → Keep [] S S' → Q (.ref p) S') → Φ 1004 [.tup r.l] S Q X
theorem last_of {x : D} {xs : List D} : (x :: xs).reverse[(x :: xs).reverse.length - 1]? = some x ∧ (x :: xs).reverse.dropLast = xs.reverse := by
  rw [List.reverse_cons]
  constructor
  · rw [List.length_append, List.length_singleton, Nat.add_sub_cancel, List.getElem?_append_right (Nat.le_refl _), Nat.sub_self]; rfl
  · exact List.dropLast_concat
theorem all_rows_ok {G : GT} {Φ : Call} {r : Rws} {S : Sto} {Q : QD} {X : XD} (hs : r.size ≤ 100000) (k : ∀ p S', S p = none → S' p = some (.lst r.pre) → Keep [] S S' → Q (.ref p) S') :
    wc G Φ l_all_3004.body (endsD Q X) (startD 4 [.tup r.l]) S := by
  unfold l_all_3004
  show wc G Φ _ (endsD Q X) [some (D.tup r.l), none, none, none] S
  have hsz : 1000000 < sizeLine := by decide
  refine wc_sq ?_; try simp only [DL.wcs, DL.wp, DL.ds, DL.dl, List.set, if_true, if_false, reduceCtorEq, Bool.false_eq_true, eq_self, DL.sz, true_and, DL.tp2, DL.prs, DL.isr, Bool.not_true, Bool.not_false]
  intro f hf
  refine wc_sq ?_; try simp only [DL.wcs, DL.wp, DL.ds, DL.dl, List.set, if_true, if_false, reduceCtorEq, Bool.false_eq_true, eq_self, DL.sz, true_and, DL.tp2, DL.prs, DL.isr, Bool.not_true, Bool.not_false]
  refine ⟨_, rfl, fun q hq => ?_⟩
  have hqS : S q = none ∧ q ≠ f := by
    by_cases e : q = f
    · rw [e, su_same] at hq; cases hq
    · exact ⟨by rw [su_ne e] at hq; exact hq, e⟩
  have nfq : f ≠ q := hqS.2.symm
  refine wc_sq ?_; try simp only [DL.wcs, DL.wp, DL.ds, DL.dl, List.set, if_true, if_false, reduceCtorEq, Bool.false_eq_true, eq_self, DL.sz, true_and, DL.tp2, DL.prs, DL.isr, Bool.not_true, Bool.not_false]
  refine whi_inv (fun n ρ S' => ∃ (pend : Rws) (acc : List D) (o3 : Option D), ρ = [some (D.tup r.l), some (D.ref f), some (D.ref q), o3] ∧ S' f = some (.lst acc) ∧ S' q = some (.lst pend.l.reverse) ∧ acc ++ pend.pre = r.pre ∧ pend.size = n ∧ Keep [] S S')
    (fun ρ S' => ∃ (o3 : Option D), ρ = [some (D.tup r.l), some (D.ref f), some (D.ref q), o3] ∧ S' f = some (.lst r.pre) ∧ Keep [] S S')
    ⟨_, r, [], none, rfl, by rw [su_ne nfq, su_same], su_same, rfl, rfl, (Keep.new hf).trans (Keep.new hq)⟩ ?_ ?_
  · rintro n ρ S1 N L ⟨pend, acc, o3, rfl, ef, eq, ea, rfl, K1⟩ hN hL
    try simp only [DL.wcs, DL.wp, DL.ds, DL.dl, List.set, if_true, if_false, reduceCtorEq, Bool.false_eq_true, eq_self, DL.sz, true_and, DL.tp2, DL.prs, DL.isr, Bool.not_true, Bool.not_false]
    refine len_lst eq ?_
    try simp only [DL.wcs, DL.wp, DL.ds, DL.dl, List.set, if_true, if_false, reduceCtorEq, Bool.false_eq_true, eq_self, DL.sz, true_and, DL.tp2, DL.prs, DL.isr, Bool.not_true, Bool.not_false, decide_eq_true_eq]
    have hlen : acc.length + pend.size ≤ 100000 := by
      have := congrArg List.length ea
      rw [List.length_append, Rws.pre_len, Rws.pre_len] at this
      omega
    by_cases h0 : pend = .nil
    · subst h0
      rw [if_neg (by decide)]
      refine hL _ _ ⟨o3, rfl, ?_, K1⟩
      rw [ef, ← ea]
      simp [Rws.pre]
    · have hpos : 0 < pend.l.length := by cases pend <;> first | exact absurd rfl h0 | exact Nat.succ_pos _
      rw [if_pos (by rw [List.length_reverse]; omega)]
      -- one row
      have go : ∀ (d : D) (rest : List D) (more : Rws), pend.l = d :: rest → more.size < pend.size → ∀ S4 o, S4 f = some (.lst (acc ++ [d])) → S4 q = some (.lst more.l.reverse) → acc ++ [d] ++ more.pre = r.pre → Keep [] S S4 →
          N [some (D.tup r.l), some (D.ref f), some (D.ref q), o] S4 := fun d rest more _ hm S4 o e1 e2 e3 e4 => hN _ _ _ hm ⟨more, acc ++ [d], o, rfl, e1, e2, e3, rfl, e4⟩
      obtain ⟨d, rest, ed⟩ : ∃ d rest, pend.l = d :: rest := by
        cases e : pend.l with
        | nil => rw [e] at hpos; cases hpos
        | cons d rest => exact ⟨d, rest, rfl⟩
      obtain ⟨l1, l2⟩ := last_of (x := d) (xs := rest)
      rw [← ed] at l1 l2
      refine wc_sq ?_; try simp only [DL.wcs, DL.wp, DL.ds, DL.dl, List.set, if_true, if_false, reduceCtorEq, Bool.false_eq_true, eq_self, DL.sz, true_and, DL.tp2, DL.prs, DL.isr, Bool.not_true, Bool.not_false]
      refine ⟨⟨_, lstOf_of eq⟩, _, _, lstOf_of eq, l1, ?_⟩
      rw [l2]
      refine wc_sq ?_; try simp only [DL.wcs, DL.wp, DL.ds, DL.dl, List.set, if_true, if_false, reduceCtorEq, Bool.false_eq_true, eq_self, DL.sz, true_and, DL.tp2, DL.prs, DL.isr, Bool.not_true, Bool.not_false]
      have ef2 : su S1 q (.lst rest.reverse) f = some (.lst acc) := by rw [su_ne nfq]; exact ef
      refine ⟨⟨_, lstOf_of ef2⟩, _, lstOf_of ef2, by omega, ?_⟩
      have e3 : su (su S1 q (.lst rest.reverse)) f (.lst (acc ++ [d])) f = some (.lst (acc ++ [d])) := su_same
      have e4 : su (su S1 q (.lst rest.reverse)) f (.lst (acc ++ [d])) q = some (.lst rest.reverse) := by rw [su_ne nfq.symm, su_same]
      have K2 : Keep [] S (su (su S1 q (.lst rest.reverse)) f (.lst (acc ++ [d]))) := keep_acc (keep_acc K1 hqS.1 Keep.refl) hf Keep.refl
      generalize su (su S1 q (.lst rest.reverse)) f (.lst (acc ++ [d])) = S4 at e3 e4 K2
      have plain : ∀ (w : Str) (xs : List D) (more : Rws), d = .tup (.str w :: xs) → w ≠ ("when" : String) → w ≠ ("times" : String) → rest = more.l → more.size < pend.size → acc ++ [d] ++ more.pre = r.pre →
          ∀ (C1 C2 : C) (e : DE), e.nx = N → wc G Φ (.seq (.ite (.cmp .Eq (.idx (.var 3) (.int 0)) (.str "when")) C1 .skip) (.seq (.ite (.cmp .Eq (.idx (.var 3) (.int 0)) (.str "times")) C2 .skip) .skip)) e [some (D.tup r.l), some (D.ref f), some (D.ref q), some d] S4 := by
        intro w xs more hd h1 h2 hr hm he C1 C2 e he2
        subst hd
        refine wc_sq ?_; try simp only [DL.wcs, DL.wp, DL.ds, DL.dl, List.set, if_true, if_false, reduceCtorEq, Bool.false_eq_true, eq_self, DL.sz, true_and, DL.tp2, DL.prs, DL.isr, Bool.not_true, Bool.not_false]
        refine idx_tup at0 ?_
        try simp only [DL.wcs, DL.wp, DL.ds, DL.dl, List.set, if_true, if_false, reduceCtorEq, Bool.false_eq_true, eq_self, DL.sz, true_and, DL.tp2, DL.prs, DL.isr, Bool.not_true, Bool.not_false, decide_eq_true_eq]
        rw [if_neg h1]
        refine wc_sq ?_; try simp only [DL.wcs, DL.wp, DL.ds, DL.dl, List.set, if_true, if_false, reduceCtorEq, Bool.false_eq_true, eq_self, DL.sz, true_and, DL.tp2, DL.prs, DL.isr, Bool.not_true, Bool.not_false]
        refine idx_tup at0 ?_
        try simp only [DL.wcs, DL.wp, DL.ds, DL.dl, List.set, if_true, if_false, reduceCtorEq, Bool.false_eq_true, eq_self, DL.sz, true_and, DL.tp2, DL.prs, DL.isr, Bool.not_true, Bool.not_false, decide_eq_true_eq]
        rw [if_neg h2]
        try simp only [DL.wcs, DL.wp, DL.ds, DL.dl, List.set, if_true, if_false, reduceCtorEq, Bool.false_eq_true, eq_self, DL.sz, true_and, DL.tp2, DL.prs, DL.isr, Bool.not_true, Bool.not_false]
        rw [he2]
        exact go _ rest more ed hm S4 _ e3 (by rw [e4, hr]) he K2
      cases pend with
      | nil => exact absurd rfl h0
      | thr x hh p' =>
        cases ed
        exact plain _ _ p' (Th.d_eq x hh) (Th.tag_ne hh).1 (Th.tag_ne hh).2 rfl (by simp only [Rws.size]; omega) (by rw [← ea]; simp [Rws.pre]) _ _ _ rfl
      | lt x t p' =>
        cases ed
        exact plain _ _ p' rfl (by rw [ne_eq, ofStr_inj]; decide) (by rw [ne_eq, ofStr_inj]; decide) rfl (by simp only [Rws.size]; omega) (by rw [← ea]; simp [Rws.pre]) _ _ _ rfl
      | tell t p' =>
        cases ed
        exact plain _ _ p' rfl (by rw [ne_eq, ofStr_inj]; decide) (by rw [ne_eq, ofStr_inj]; decide) rfl (by simp only [Rws.size]; omega) (by rw [← ea]; simp [Rws.pre]) _ _ _ rfl
      | whn t a b p' =>
        cases ed
        have la := Rws.len_l a
        have lb := Rws.len_l b
        have lp := Rws.len_l p'
        have hz : a.size + b.size + p'.size + 1 ≤ 100000 := by simp only [Rws.size] at hlen; omega
        refine wc_sq ?_; try simp only [DL.wcs, DL.wp, DL.ds, DL.dl, List.set, if_true, if_false, reduceCtorEq, Bool.false_eq_true, eq_self, DL.sz, true_and, DL.tp2, DL.prs, DL.isr, Bool.not_true, Bool.not_false]
        refine idx_tup at0 ?_
        try simp only [DL.wcs, DL.wp, DL.ds, DL.dl, List.set, if_true, if_false, reduceCtorEq, Bool.false_eq_true, eq_self, DL.sz, true_and, DL.tp2, DL.prs, DL.isr, Bool.not_true, Bool.not_false, decide_true]
        refine wc_sq ?_; try simp only [DL.wcs, DL.wp, DL.ds, DL.dl, List.set, if_true, if_false, reduceCtorEq, Bool.false_eq_true, eq_self, DL.sz, true_and, DL.tp2, DL.prs, DL.isr, Bool.not_true, Bool.not_false]
        refine ⟨⟨_, lstOf_of e4⟩, idx_tup rfl (idx_tup rfl ⟨by rw [sizeLine_eq]; rw [sizeLine_eq] at hsz; omega, _, rfl, fun u hu => ?_⟩)⟩
        try simp only [DL.wcs, DL.wp, DL.ds, DL.dl, List.set, if_true, if_false, reduceCtorEq, Bool.false_eq_true, eq_self, DL.sz, true_and, DL.tp2, DL.prs, DL.isr, Bool.not_true, Bool.not_false]
        have nqu : q ≠ u := sne e4 hu
        have nfu : f ≠ u := sne e3 hu
        refine ⟨_, _, lstOf_of (by rw [su_ne nqu]; exact e4), lstOf_of su_same, by simp only [List.length_reverse, List.length_append]; omega, ?_⟩
        refine wc_sq ?_; try simp only [DL.wcs, DL.wp, DL.ds, DL.dl, List.set, if_true, if_false, reduceCtorEq, Bool.false_eq_true, eq_self, DL.sz, true_and, DL.tp2, DL.prs, DL.isr, Bool.not_true, Bool.not_false]
        refine idx_tup at0 ?_
        try simp only [DL.wcs, DL.wp, DL.ds, DL.dl, List.set, if_true, if_false, reduceCtorEq, Bool.false_eq_true, eq_self, DL.sz, true_and, DL.tp2, DL.prs, DL.isr, Bool.not_true, Bool.not_false, decide_eq_true_eq, ofStr_inj]
        refine (if_neg (by decide)).mpr ?_
        refine go _ _ (a.app (b.app p')) rfl (by rw [Rws.size_app, Rws.size_app]; simp only [Rws.size]; omega) _ _ (by rw [su_ne hqS.2.symm, su_ne nfu]; exact e3) ?_ ?_ (keep_acc K2 hqS.1 (Keep.new hu))
        · rw [su_same, Rws.l_app, Rws.l_app]
          simp
        · rw [← ea, Rws.pre_app, Rws.pre_app]
          simp [Rws.pre]
      | tms n a p' =>
        cases ed
        have la := Rws.len_l a
        have lp := Rws.len_l p'
        have hz : a.size + p'.size + 1 ≤ 100000 := by simp only [Rws.size] at hlen; omega
        refine wc_sq ?_; try simp only [DL.wcs, DL.wp, DL.ds, DL.dl, List.set, if_true, if_false, reduceCtorEq, Bool.false_eq_true, eq_self, DL.sz, true_and, DL.tp2, DL.prs, DL.isr, Bool.not_true, Bool.not_false]
        refine idx_tup at0 ?_
        try simp only [DL.wcs, DL.wp, DL.ds, DL.dl, List.set, if_true, if_false, reduceCtorEq, Bool.false_eq_true, eq_self, DL.sz, true_and, DL.tp2, DL.prs, DL.isr, Bool.not_true, Bool.not_false, decide_eq_true_eq, ofStr_inj]
        refine (if_neg (by decide)).mpr ?_
        refine wc_sq ?_; try simp only [DL.wcs, DL.wp, DL.ds, DL.dl, List.set, if_true, if_false, reduceCtorEq, Bool.false_eq_true, eq_self, DL.sz, true_and, DL.tp2, DL.prs, DL.isr, Bool.not_true, Bool.not_false]
        refine idx_tup at0 ?_
        try simp only [DL.wcs, DL.wp, DL.ds, DL.dl, List.set, if_true, if_false, reduceCtorEq, Bool.false_eq_true, eq_self, DL.sz, true_and, DL.tp2, DL.prs, DL.isr, Bool.not_true, Bool.not_false, decide_true]
        refine wc_sq ?_; try simp only [DL.wcs, DL.wp, DL.ds, DL.dl, List.set, if_true, if_false, reduceCtorEq, Bool.false_eq_true, eq_self, DL.sz, true_and, DL.tp2, DL.prs, DL.isr, Bool.not_true, Bool.not_false]
        refine ⟨⟨_, lstOf_of e4⟩, idx_tup rfl ⟨_, rfl, fun u hu => ?_⟩⟩
        try simp only [DL.wcs, DL.wp, DL.ds, DL.dl, List.set, if_true, if_false, reduceCtorEq, Bool.false_eq_true, eq_self, DL.sz, true_and, DL.tp2, DL.prs, DL.isr, Bool.not_true, Bool.not_false]
        have nqu : q ≠ u := sne e4 hu
        have nfu : f ≠ u := sne e3 hu
        refine ⟨_, _, lstOf_of (by rw [su_ne nqu]; exact e4), lstOf_of su_same, by simp only [List.length_reverse]; omega, ?_⟩
        refine go _ _ (a.app p') rfl (by rw [Rws.size_app]; simp only [Rws.size]; omega) _ _ (by rw [su_ne hqS.2.symm, su_ne nfu]; exact e3) ?_ ?_ (keep_acc K2 hqS.1 (Keep.new hu))
        · rw [su_same, Rws.l_app]
          simp
        · rw [← ea, Rws.pre_app]
          simp [Rws.pre]
  · rintro ρ S1 ⟨o3, rfl, ef, K1⟩
    refine wc_sq ?_; try simp only [DL.wcs, DL.wp, DL.ds, DL.dl, List.set, if_true, if_false, reduceCtorEq, Bool.false_eq_true, eq_self, DL.sz, true_and, DL.tp2, DL.prs, DL.isr, Bool.not_true, Bool.not_false]
    exact k f S1 hf ef K1
end DL

set_option Elab.async false
set_option linter.all false
set_option maxRecDepth 100000
/-! LL: programs looked at (k17): look tells True of those that are let by -/
namespace DL
open PySem PySem.Spec PyProof.Rows L2

namespace Rws
/-- one row -/
def single : Rws → Prop
  | nil => False
  | thr _ _ r => r = nil
  | lt _ _ r => r = nil
  | tell _ r => r = nil
  | whn _ _ _ r => r = nil
  | tms _ _ r => r = nil
theorem head : ∀ {s : Rws} {d : D}, s.l[0]? = some d → ∃ (one s' : Rws), s = one.app s' ∧ one.single ∧ one.l = [d] ∧ one.nest ≤ s.nest ∧ one.size ≤ s.size
  | nil, _, h => by cases h
  | thr x h r, d, e => ⟨thr x h nil, r, rfl, rfl, by cases e; rfl, by simp [nest], by simp [size]⟩
  | lt x t r, d, e => ⟨lt x t nil, r, rfl, rfl, by cases e; rfl, by simp [nest], by simp [size]⟩
  | tell t r, d, e => ⟨tell t nil, r, rfl, rfl, by cases e; rfl, by simp [nest], by simp [size]⟩
  | whn t a b r, d, e => ⟨whn t a b nil, r, rfl, rfl, by cases e; rfl, by simp only [nest]; omega, by simp only [size]; omega⟩
  | tms n a r, d, e => ⟨tms n a nil, r, rfl, rfl, by cases e; rfl, by simp only [nest]; omega, by simp only [size]; omega⟩
theorem ok_split {m : Int} : ∀ (r s : Rws) (k : List Str), (r.app s).Ok m k → r.Ok m k ∧ s.Ok m (r.nf k)
  | nil, _, _, h => ⟨trivial, h⟩
  | thr _ _ r, s, k, h => ⟨⟨h.1, h.2.1, (ok_split r s _ h.2.2).1⟩, (ok_split r s _ h.2.2).2⟩
  | lt _ _ r, s, k, h => ⟨⟨h.1, h.2.1, (ok_split r s _ h.2.2).1⟩, (ok_split r s _ h.2.2).2⟩
  | tell _ r, s, k, h => ⟨⟨h.1, (ok_split r s _ h.2).1⟩, (ok_split r s _ h.2).2⟩
  | whn _ _ _ r, s, k, h => ⟨⟨h.1, h.2.1, h.2.2.1, h.2.2.2.1, (ok_split r s _ h.2.2.2.2).1⟩, (ok_split r s _ h.2.2.2.2).2⟩
  | tms _ _ r, s, k, h => ⟨⟨h.1, h.2.1, h.2.2.1, (ok_split r s _ h.2.2.2).1⟩, (ok_split r s _ h.2.2.2).2⟩
/-- a walk's turn over rows -/
theorem turn {r s1 s2 : Rws} {i : Nat} {d : D} (er : r = s1.app s2) (el : s1.l.length = i) (hx : r.l[i]? = some d) :
    ∃ (one s' : Rws), s2 = one.app s' ∧ one.single ∧ one.l = [d] ∧ one.nest ≤ r.nest ∧ one.size ≤ r.size ∧ r = (s1.app one).app s' ∧ (s1.app one).l.length = i + 1 := by
  have hx2 : s2.l[0]? = some d := by
    rw [er, l_app, List.getElem?_append_right (by omega), el, Nat.sub_self] at hx
    exact hx
  obtain ⟨one, s', e, h1, h2, h3, h4⟩ := head hx2
  have n1 := nest_app s1 s2
  have z1 := size_app s1 s2
  rw [← er] at n1 z1
  refine ⟨one, s', e, h1, h2, by omega, by omega, by rw [er, e, app_assoc], ?_⟩
  rw [l_app, List.length_append, el, h2]
  rfl
theorem turns_end {r s1 s2 : Rws} (er : r = s1.app s2) (el : s1.l.length = r.l.length) : r = s1 := by
  have e2 : s2 = .nil := by
    have h := l_app s1 s2
    rw [← er] at h
    have h2 : s2.l.length = 0 := by
      have := congrArg List.length h
      rw [List.length_append] at this
      omega
    cases s2 <;> first | rfl | cases h2
  rw [e2, app_nil] at er
  exact er
end Rws
theorem names_len : ∀ t : Tm, t.names.length ≤ 2 ^ t.deep
  | .num _ => Nat.zero_le _
  | .name _ => by show 1 ≤ 2 ^ 1; decide
  | .op c a b => by
    have ha := names_len a
    have hb := names_len b
    have h1 : 2 ^ a.deep ≤ 2 ^ (max a.deep b.deep) := Nat.pow_le_pow_right (by decide) (by omega)
    have h2 : 2 ^ b.deep ≤ 2 ^ (max a.deep b.deep) := Nat.pow_le_pow_right (by decide) (by omega)
    show (a.names ++ b.names).length ≤ 2 ^ (1 + max a.deep b.deep)
    rw [List.length_append, Nat.add_comm 1, Nat.pow_succ]
    omega
def NamesInFn (n : Nat) (Φ : Call) : Prop := ∀ (t : Tm) (S : Sto) (Q : QD) (X : XD), t.deep ≤ n → (∀ p S', S p = none → S' p = some (.lst (t.names.map D.str)) → Keep [] S S' → Q (.ref p) S') → Φ 45 [t.d] S Q X
theorem names_in_ok {G : GT} {Φ : Call} {n : Nat} (hn20 : n ≤ 20) (hr : ∀ m, n = m + 1 → NamesInFn m Φ) {t : Tm} {S : Sto} {Q : QD} {X : XD} (hn : t.deep ≤ n) (k : ∀ p S', S p = none → S' p = some (.lst (t.names.map D.str)) → Keep [] S S' → Q (.ref p) S') :
    wc G Φ f_names_in_ed56.body (endsD Q X) (startD 1 [t.d]) S := by
  unfold f_names_in_ed56
  show wc G Φ _ (endsD Q X) [some t.d] S
  cases t with
  | num i =>
    unfold Tm.d
    refine wc_sq ?_; try simp only [DL.wcs, DL.wp, DL.ds, DL.dl, List.set, if_true, if_false, reduceCtorEq, Bool.false_eq_true, eq_self, DL.sz, true_and, DL.tp2, DL.prs, DL.isr, Bool.not_true, Bool.not_false]
    refine idx_tup at0 ?_
    try simp only [DL.wcs, DL.wp, DL.ds, DL.dl, List.set, if_true, if_false, reduceCtorEq, Bool.false_eq_true, eq_self, DL.sz, true_and, DL.tp2, DL.prs, DL.isr, Bool.not_true, Bool.not_false, decide_eq_true_eq, ofStr_inj]
    refine (if_neg (by decide)).mpr ?_
    refine wc_sq ?_; try simp only [DL.wcs, DL.wp, DL.ds, DL.dl, List.set, if_true, if_false, reduceCtorEq, Bool.false_eq_true, eq_self, DL.sz, true_and, DL.tp2, DL.prs, DL.isr, Bool.not_true, Bool.not_false]
    refine idx_tup at0 ?_
    try simp only [DL.wcs, DL.wp, DL.ds, DL.dl, List.set, if_true, if_false, reduceCtorEq, Bool.false_eq_true, eq_self, DL.sz, true_and, DL.tp2, DL.prs, DL.isr, Bool.not_true, Bool.not_false, decide_eq_true_eq, ofStr_inj]
    refine (if_neg (by decide)).mpr ?_
    refine wc_sq ?_; try simp only [DL.wcs, DL.wp, DL.ds, DL.dl, List.set, if_true, if_false, reduceCtorEq, Bool.false_eq_true, eq_self, DL.sz, true_and, DL.tp2, DL.prs, DL.isr, Bool.not_true, Bool.not_false]
    intro p hp
    exact k p _ hp su_same (Keep.new hp)
  | name x =>
    unfold Tm.d
    refine wc_sq ?_; try simp only [DL.wcs, DL.wp, DL.ds, DL.dl, List.set, if_true, if_false, reduceCtorEq, Bool.false_eq_true, eq_self, DL.sz, true_and, DL.tp2, DL.prs, DL.isr, Bool.not_true, Bool.not_false]
    refine idx_tup at0 ?_
    try simp only [DL.wcs, DL.wp, DL.ds, DL.dl, List.set, if_true, if_false, reduceCtorEq, Bool.false_eq_true, eq_self, DL.sz, true_and, DL.tp2, DL.prs, DL.isr, Bool.not_true, Bool.not_false, decide_true]
    refine wc_sq ?_; try simp only [DL.wcs, DL.wp, DL.ds, DL.dl, List.set, if_true, if_false, reduceCtorEq, Bool.false_eq_true, eq_self, DL.sz, true_and, DL.tp2, DL.prs, DL.isr, Bool.not_true, Bool.not_false]
    refine idx_tup rfl ?_
    try simp only [DL.wcs, DL.wp, DL.ds, DL.dl, List.set, if_true, if_false, reduceCtorEq, Bool.false_eq_true, eq_self, DL.sz, true_and, DL.tp2, DL.prs, DL.isr, Bool.not_true, Bool.not_false]
    intro p hp
    exact k p _ hp su_same (Keep.new hp)
  | op c a b =>
    obtain ⟨n', rfl⟩ : ∃ n', n = n' + 1 := ⟨n - 1, by simp only [Tm.deep] at hn; omega⟩
    have hv := hr n' rfl
    have da : a.deep ≤ n' := by simp only [Tm.deep] at hn; omega
    have db : b.deep ≤ n' := by simp only [Tm.deep] at hn; omega
    unfold Tm.d
    refine wc_sq ?_; try simp only [DL.wcs, DL.wp, DL.ds, DL.dl, List.set, if_true, if_false, reduceCtorEq, Bool.false_eq_true, eq_self, DL.sz, true_and, DL.tp2, DL.prs, DL.isr, Bool.not_true, Bool.not_false]
    refine idx_tup at0 ?_
    try simp only [DL.wcs, DL.wp, DL.ds, DL.dl, List.set, if_true, if_false, reduceCtorEq, Bool.false_eq_true, eq_self, DL.sz, true_and, DL.tp2, DL.prs, DL.isr, Bool.not_true, Bool.not_false, decide_eq_true_eq, ofStr_inj]
    refine (if_neg (by decide)).mpr ?_
    refine wc_sq ?_; try simp only [DL.wcs, DL.wp, DL.ds, DL.dl, List.set, if_true, if_false, reduceCtorEq, Bool.false_eq_true, eq_self, DL.sz, true_and, DL.tp2, DL.prs, DL.isr, Bool.not_true, Bool.not_false]
    refine idx_tup at0 ?_
    try simp only [DL.wcs, DL.wp, DL.ds, DL.dl, List.set, if_true, if_false, reduceCtorEq, Bool.false_eq_true, eq_self, DL.sz, true_and, DL.tp2, DL.prs, DL.isr, Bool.not_true, Bool.not_false, decide_true]
    refine wc_sq ?_; try simp only [DL.wcs, DL.wp, DL.ds, DL.dl, List.set, if_true, if_false, reduceCtorEq, Bool.false_eq_true, eq_self, DL.sz, true_and, DL.tp2, DL.prs, DL.isr, Bool.not_true, Bool.not_false]
    refine idx_tup rfl ?_
    try simp only [DL.wcs, DL.wp, DL.ds, DL.dl, List.set, if_true, if_false, reduceCtorEq, Bool.false_eq_true, eq_self, DL.sz, true_and, DL.tp2, DL.prs, DL.isr, Bool.not_true, Bool.not_false]
    refine hv a S _ _ da fun p S1 hp e1 K1 => ?_
    refine idx_tup rfl ?_
    try simp only [DL.wcs, DL.wp, DL.ds, DL.dl, List.set, if_true, if_false, reduceCtorEq, Bool.false_eq_true, eq_self, DL.sz, true_and, DL.tp2, DL.prs, DL.isr, Bool.not_true, Bool.not_false]
    refine hv b S1 _ _ db fun q S2 hq e2 K2 => ?_
    have ea := K2 _ _ (by simp) e1
    refine ⟨_, _, lstOf_of ea, lstOf_of e2, ?_, fun u hu => ?_⟩
    · have l1 := names_len a
      have l2 := names_len b
      have p1 : 2 ^ a.deep ≤ 2 ^ 20 := Nat.pow_le_pow_right (by decide) (by omega)
      have p2 : 2 ^ b.deep ≤ 2 ^ 20 := Nat.pow_le_pow_right (by decide) (by omega)
      rw [List.length_map, List.length_map, sizeLine_eq]
      omega
    · have K12 := K1.trans K2
      refine k u _ (K12.none_of hu (by simp)) ?_ (K12.trans (Keep.new hu))
      rw [su_same]
      simp [Tm.names]
/-- the names that a row asks for -/
def asked : Rws → List Str
  | .lt _ t _ => t.names
  | .tell t _ => t.names
  | .whn t _ _ _ => t.names
  | _ => []
def AskFn (Φ : Call) : Prop := ∀ (one : Rws) (d : D) (m : Int) (ks : List Str) (S : Sto) (Q : QD) (X : XD), one.single → one.l = [d] → one.Ok m ks → (∀ p S', S p = none → S' p = some (.lst ((asked one).map D.str)) → Keep [] S S' → Q (.ref p) S') → Φ 46 [d] S Q X
theorem tag_ne2 : ∀ h : Th, h.tag ≠ Str.ofString "let" ∧ h.tag ≠ Str.ofString "tell" ∧ h.tag ≠ Str.ofString "when" ∧ h.tag ≠ Str.ofString "times"
  | .ladder .. => by simp only [Th.tag, ne_eq, ofStr_inj]; decide
  | .flat .. => by simp only [Th.tag, ne_eq, ofStr_inj]; decide
  | .choose .. => by simp only [Th.tag, ne_eq, ofStr_inj]; decide
  | .first .. => by simp only [Th.tag, ne_eq, ofStr_inj]; decide
theorem ask_ok {G : GT} {Φ : Call} (hn : NamesInFn 6 Φ) {one : Rws} {d : D} {m : Int} {ks : List Str} {S : Sto} {Q : QD} {X : XD} (h1 : one.single) (h2 : one.l = [d]) (ok : one.Ok m ks) (k : ∀ p S', S p = none → S' p = some (.lst ((asked one).map D.str)) → Keep [] S S' → Q (.ref p) S') :
    wc G Φ f_names_asked_dfaa.body (endsD Q X) (startD 1 [d]) S := by
  unfold f_names_asked_dfaa
  show wc G Φ _ (endsD Q X) [some d] S
  cases one with
  | nil => exact h1.elim
  | thr x hh r =>
    cases h1
    cases h2
    obtain ⟨t1, t2, t3, t4⟩ := tag_ne2 hh
    rw [Th.d_eq]
    refine wc_sq ?_; try simp only [DL.wcs, DL.wp, DL.ds, DL.dl, List.set, if_true, if_false, reduceCtorEq, Bool.false_eq_true, eq_self, DL.sz, true_and, DL.tp2, DL.prs, DL.isr, Bool.not_true, Bool.not_false]
    refine idx_tup at0 ?_
    try simp only [DL.wcs, DL.wp, DL.ds, DL.dl, List.set, if_true, if_false, reduceCtorEq, Bool.false_eq_true, eq_self, DL.sz, true_and, DL.tp2, DL.prs, DL.isr, Bool.not_true, Bool.not_false, decide_eq_true_eq]
    rw [if_neg t1]
    refine wc_sq ?_; try simp only [DL.wcs, DL.wp, DL.ds, DL.dl, List.set, if_true, if_false, reduceCtorEq, Bool.false_eq_true, eq_self, DL.sz, true_and, DL.tp2, DL.prs, DL.isr, Bool.not_true, Bool.not_false]
    refine idx_tup at0 ?_
    try simp only [DL.wcs, DL.wp, DL.ds, DL.dl, List.set, if_true, if_false, reduceCtorEq, Bool.false_eq_true, eq_self, DL.sz, true_and, DL.tp2, DL.prs, DL.isr, Bool.not_true, Bool.not_false, decide_eq_true_eq]
    rw [if_neg t2]
    refine idx_tup at0 ?_
    try simp only [DL.wcs, DL.wp, DL.ds, DL.dl, List.set, if_true, if_false, reduceCtorEq, Bool.false_eq_true, eq_self, DL.sz, true_and, DL.tp2, DL.prs, DL.isr, Bool.not_true, Bool.not_false, decide_eq_true_eq]
    rw [if_neg t3]
    refine wc_sq ?_; try simp only [DL.wcs, DL.wp, DL.ds, DL.dl, List.set, if_true, if_false, reduceCtorEq, Bool.false_eq_true, eq_self, DL.sz, true_and, DL.tp2, DL.prs, DL.isr, Bool.not_true, Bool.not_false]
    intro p hp
    exact k p _ hp su_same (Keep.new hp)
  | lt x t r =>
    cases h1
    cases h2
    refine wc_sq ?_; try simp only [DL.wcs, DL.wp, DL.ds, DL.dl, List.set, if_true, if_false, reduceCtorEq, Bool.false_eq_true, eq_self, DL.sz, true_and, DL.tp2, DL.prs, DL.isr, Bool.not_true, Bool.not_false]
    refine idx_tup at0 ?_
    try simp only [DL.wcs, DL.wp, DL.ds, DL.dl, List.set, if_true, if_false, reduceCtorEq, Bool.false_eq_true, eq_self, DL.sz, true_and, DL.tp2, DL.prs, DL.isr, Bool.not_true, Bool.not_false, decide_true]
    refine wc_sq ?_; try simp only [DL.wcs, DL.wp, DL.ds, DL.dl, List.set, if_true, if_false, reduceCtorEq, Bool.false_eq_true, eq_self, DL.sz, true_and, DL.tp2, DL.prs, DL.isr, Bool.not_true, Bool.not_false]
    refine idx_tup rfl ?_
    try simp only [DL.wcs, DL.wp, DL.ds, DL.dl, List.set, if_true, if_false, reduceCtorEq, Bool.false_eq_true, eq_self, DL.sz, true_and, DL.tp2, DL.prs, DL.isr, Bool.not_true, Bool.not_false]
    exact hn t S _ _ ok.2.1.2.2 k
  | tell t r =>
    cases h1
    cases h2
    refine wc_sq ?_; try simp only [DL.wcs, DL.wp, DL.ds, DL.dl, List.set, if_true, if_false, reduceCtorEq, Bool.false_eq_true, eq_self, DL.sz, true_and, DL.tp2, DL.prs, DL.isr, Bool.not_true, Bool.not_false]
    refine idx_tup at0 ?_
    try simp only [DL.wcs, DL.wp, DL.ds, DL.dl, List.set, if_true, if_false, reduceCtorEq, Bool.false_eq_true, eq_self, DL.sz, true_and, DL.tp2, DL.prs, DL.isr, Bool.not_true, Bool.not_false, decide_eq_true_eq, ofStr_inj]
    refine (if_neg (by decide)).mpr ?_
    refine wc_sq ?_; try simp only [DL.wcs, DL.wp, DL.ds, DL.dl, List.set, if_true, if_false, reduceCtorEq, Bool.false_eq_true, eq_self, DL.sz, true_and, DL.tp2, DL.prs, DL.isr, Bool.not_true, Bool.not_false]
    refine idx_tup at0 ?_
    try simp only [DL.wcs, DL.wp, DL.ds, DL.dl, List.set, if_true, if_false, reduceCtorEq, Bool.false_eq_true, eq_self, DL.sz, true_and, DL.tp2, DL.prs, DL.isr, Bool.not_true, Bool.not_false, decide_true]
    refine wc_sq ?_; try simp only [DL.wcs, DL.wp, DL.ds, DL.dl, List.set, if_true, if_false, reduceCtorEq, Bool.false_eq_true, eq_self, DL.sz, true_and, DL.tp2, DL.prs, DL.isr, Bool.not_true, Bool.not_false]
    refine idx_tup rfl ?_
    try simp only [DL.wcs, DL.wp, DL.ds, DL.dl, List.set, if_true, if_false, reduceCtorEq, Bool.false_eq_true, eq_self, DL.sz, true_and, DL.tp2, DL.prs, DL.isr, Bool.not_true, Bool.not_false]
    exact hn t S _ _ ok.1.2.2 k
  | whn t a b r =>
    cases h1
    cases h2
    refine wc_sq ?_; try simp only [DL.wcs, DL.wp, DL.ds, DL.dl, List.set, if_true, if_false, reduceCtorEq, Bool.false_eq_true, eq_self, DL.sz, true_and, DL.tp2, DL.prs, DL.isr, Bool.not_true, Bool.not_false]
    refine idx_tup at0 ?_
    try simp only [DL.wcs, DL.wp, DL.ds, DL.dl, List.set, if_true, if_false, reduceCtorEq, Bool.false_eq_true, eq_self, DL.sz, true_and, DL.tp2, DL.prs, DL.isr, Bool.not_true, Bool.not_false, decide_eq_true_eq, ofStr_inj]
    refine (if_neg (by decide)).mpr ?_
    refine wc_sq ?_; try simp only [DL.wcs, DL.wp, DL.ds, DL.dl, List.set, if_true, if_false, reduceCtorEq, Bool.false_eq_true, eq_self, DL.sz, true_and, DL.tp2, DL.prs, DL.isr, Bool.not_true, Bool.not_false]
    refine idx_tup at0 ?_
    try simp only [DL.wcs, DL.wp, DL.ds, DL.dl, List.set, if_true, if_false, reduceCtorEq, Bool.false_eq_true, eq_self, DL.sz, true_and, DL.tp2, DL.prs, DL.isr, Bool.not_true, Bool.not_false, decide_eq_true_eq, ofStr_inj]
    refine (if_neg (by decide)).mpr ?_
    refine idx_tup at0 ?_
    try simp only [DL.wcs, DL.wp, DL.ds, DL.dl, List.set, if_true, if_false, reduceCtorEq, Bool.false_eq_true, eq_self, DL.sz, true_and, DL.tp2, DL.prs, DL.isr, Bool.not_true, Bool.not_false, decide_true]
    refine wc_sq ?_; try simp only [DL.wcs, DL.wp, DL.ds, DL.dl, List.set, if_true, if_false, reduceCtorEq, Bool.false_eq_true, eq_self, DL.sz, true_and, DL.tp2, DL.prs, DL.isr, Bool.not_true, Bool.not_false]
    refine idx_tup rfl ?_
    try simp only [DL.wcs, DL.wp, DL.ds, DL.dl, List.set, if_true, if_false, reduceCtorEq, Bool.false_eq_true, eq_self, DL.sz, true_and, DL.tp2, DL.prs, DL.isr, Bool.not_true, Bool.not_false]
    exact hn t S _ _ ok.1.2.2 k
  | tms n a r =>
    cases h1
    cases h2
    refine wc_sq ?_; try simp only [DL.wcs, DL.wp, DL.ds, DL.dl, List.set, if_true, if_false, reduceCtorEq, Bool.false_eq_true, eq_self, DL.sz, true_and, DL.tp2, DL.prs, DL.isr, Bool.not_true, Bool.not_false]
    refine idx_tup at0 ?_
    try simp only [DL.wcs, DL.wp, DL.ds, DL.dl, List.set, if_true, if_false, reduceCtorEq, Bool.false_eq_true, eq_self, DL.sz, true_and, DL.tp2, DL.prs, DL.isr, Bool.not_true, Bool.not_false, decide_eq_true_eq, ofStr_inj]
    refine (if_neg (by decide)).mpr ?_
    refine wc_sq ?_; try simp only [DL.wcs, DL.wp, DL.ds, DL.dl, List.set, if_true, if_false, reduceCtorEq, Bool.false_eq_true, eq_self, DL.sz, true_and, DL.tp2, DL.prs, DL.isr, Bool.not_true, Bool.not_false]
    refine idx_tup at0 ?_
    try simp only [DL.wcs, DL.wp, DL.ds, DL.dl, List.set, if_true, if_false, reduceCtorEq, Bool.false_eq_true, eq_self, DL.sz, true_and, DL.tp2, DL.prs, DL.isr, Bool.not_true, Bool.not_false, decide_eq_true_eq, ofStr_inj]
    refine (if_neg (by decide)).mpr ?_
    refine idx_tup at0 ?_
    try simp only [DL.wcs, DL.wp, DL.ds, DL.dl, List.set, if_true, if_false, reduceCtorEq, Bool.false_eq_true, eq_self, DL.sz, true_and, DL.tp2, DL.prs, DL.isr, Bool.not_true, Bool.not_false, decide_eq_true_eq, ofStr_inj]
    refine (if_neg (by decide)).mpr ?_
    refine wc_sq ?_; try simp only [DL.wcs, DL.wp, DL.ds, DL.dl, List.set, if_true, if_false, reduceCtorEq, Bool.false_eq_true, eq_self, DL.sz, true_and, DL.tp2, DL.prs, DL.isr, Bool.not_true, Bool.not_false]
    intro p hp
    exact k p _ hp su_same (Keep.new hp)
end DL

set_option Elab.async false
set_option linter.all false
set_option maxRecDepth 100000
/-! LM: what is amiss at a row: nothing (k17) -/
namespace DL
open PySem PySem.Spec PyProof.Rows L2

theorem rowD_form {one : Rws} {d : D} (h1 : one.single) (h2 : one.l = [d]) : ∃ w xs, d = .tup (.str w :: xs) := by
  cases one with
  | nil => exact h1.elim
  | thr x hh r => cases h1; cases h2; exact ⟨_, _, Th.d_eq x hh⟩
  | lt x t r => cases h1; cases h2; exact ⟨_, _, rfl⟩
  | tell t r => cases h1; cases h2; exact ⟨_, _, rfl⟩
  | whn t a b r => cases h1; cases h2; exact ⟨_, _, rfl⟩
  | tms n a r => cases h1; cases h2; exact ⟨_, _, rfl⟩
def RangeFn (Φ : Call) : Prop := ∀ (one : Rws) (d : D) (m : Int) (ks : List Str) (S : Sto) (Q : QD) (X : XD), one.single → one.l = [d] → one.Ok m ks → Q (.bl false) S → Φ 47 [d] S Q X
def somesW : List Str := ["ladder", "flat", "choose"]
theorem steep_half : ∀ p ∈ steeps2, 2 * p.1 ≤ p.2 := by decide
theorem steep_small : ∀ p ∈ steeps2, p.1 < 100 := by decide
theorem range_ok {G : GT} {Φ : Call} {one : Rws} {d : D} {m : Int} {ks : List Str} {S : Sto} {Q : QD} {X : XD} (h1 : one.single) (h2 : one.l = [d]) (ok : one.Ok m ks) (k : Q (.bl false) S) : wc G Φ f_is_out_of_range_1093.body (endsD Q X) (startD 9 [d]) S := by
  unfold f_is_out_of_range_1093
  show wc G Φ _ (endsD Q X) [some d, none, none, none, none, none, none, none, none] S
  have other : ∀ (w : Str) (xs : List D), d = .tup (.str w :: xs) → w ≠ Str.ofString "first" → w ∉ somesW → wc G Φ f_is_out_of_range_1093.body (endsD Q X) [some d, none, none, none, none, none, none, none, none] S := by
    intro w xs e hw hs
    subst e
    unfold f_is_out_of_range_1093
    refine wc_sq ?_; try simp only [DL.wcs, DL.wp, DL.ds, DL.dl, List.set, if_true, if_false, reduceCtorEq, Bool.false_eq_true, eq_self, DL.sz, true_and, DL.tp2, DL.prs, DL.isr, Bool.not_true, Bool.not_false]
    refine idx_tup at0 ?_
    try simp only [DL.wcs, DL.wp, DL.ds, DL.dl, List.set, if_true, if_false, reduceCtorEq, Bool.false_eq_true, eq_self, DL.sz, true_and, DL.tp2, DL.prs, DL.isr, Bool.not_true, Bool.not_false, decide_eq_true_eq]
    rw [if_neg hw]
    refine wc_sq ?_; try simp only [DL.wcs, DL.wp, DL.ds, DL.dl, List.set, if_true, if_false, reduceCtorEq, Bool.false_eq_true, eq_self, DL.sz, true_and, DL.tp2, DL.prs, DL.isr, Bool.not_true, Bool.not_false]
    refine idx_tup at0 (in_strsT (ys := somesW) ?_)
    try simp only [DL.wcs, DL.wp, DL.ds, DL.dl, List.set, if_true, if_false, reduceCtorEq, Bool.false_eq_true, eq_self, DL.sz, true_and, DL.tp2, DL.prs, DL.isr, Bool.not_true, Bool.not_false, decide_eq_true_eq]
    rw [if_neg hs]
    exact k
  have ends : ∀ (w : Str) (d1 d2 d3 : D) (lo hi : Int) (xs : List D), d = .tup (.str w :: d1 :: d2 :: d3 :: .int lo :: .int hi :: xs) → w ≠ Str.ofString "first" → w ∈ somesW → lo ≤ hi → wc G Φ f_is_out_of_range_1093.body (endsD Q X) [some d, none, none, none, none, none, none, none, none] S := by
    intro w d1 d2 d3 lo hi xs e hw hs hl
    subst e
    unfold f_is_out_of_range_1093
    refine wc_sq ?_; try simp only [DL.wcs, DL.wp, DL.ds, DL.dl, List.set, if_true, if_false, reduceCtorEq, Bool.false_eq_true, eq_self, DL.sz, true_and, DL.tp2, DL.prs, DL.isr, Bool.not_true, Bool.not_false]
    refine idx_tup at0 ?_
    try simp only [DL.wcs, DL.wp, DL.ds, DL.dl, List.set, if_true, if_false, reduceCtorEq, Bool.false_eq_true, eq_self, DL.sz, true_and, DL.tp2, DL.prs, DL.isr, Bool.not_true, Bool.not_false, decide_eq_true_eq]
    rw [if_neg hw]
    refine wc_sq ?_; try simp only [DL.wcs, DL.wp, DL.ds, DL.dl, List.set, if_true, if_false, reduceCtorEq, Bool.false_eq_true, eq_self, DL.sz, true_and, DL.tp2, DL.prs, DL.isr, Bool.not_true, Bool.not_false]
    refine idx_tup at0 (in_strsT (ys := somesW) ?_)
    try simp only [DL.wcs, DL.wp, DL.ds, DL.dl, List.set, if_true, if_false, reduceCtorEq, Bool.false_eq_true, eq_self, DL.sz, true_and, DL.tp2, DL.prs, DL.isr, Bool.not_true, Bool.not_false, decide_eq_true_eq]
    rw [if_pos hs]
    refine idx_tup (v := .int lo) ?_ (idx_tup (v := .int hi) ?_ ?_)
    · unfold atI ixN
      rw [if_pos (by decide), if_pos (by simp only [List.length_cons]; omega)]
      rfl
    · unfold atI ixN
      rw [if_pos (by decide), if_pos (by simp only [List.length_cons]; omega)]
      rfl
    · try simp only [DL.wcs, DL.wp, DL.ds, DL.dl, List.set, if_true, if_false, reduceCtorEq, Bool.false_eq_true, eq_self, DL.sz, true_and, DL.tp2, DL.prs, DL.isr, Bool.not_true, Bool.not_false]
      rw [decide_eq_false (by omega)]
      exact k
  unfold f_is_out_of_range_1093 at other ends
  cases one with
  | nil => exact h1.elim
  | thr x hh r =>
    cases h1
    cases h2
    have o := ok.2.1
    cases hh with
    | ladder s st lo hi => exact ends _ _ _ _ lo hi [] rfl (by rw [ne_eq, ofStr_inj]; decide) (by decide +kernel) o.2.2.2.1
    | flat s z lo hi => exact ends _ _ _ _ lo hi [] rfl (by rw [ne_eq, ofStr_inj]; decide) (by decide +kernel) o.2.2.2.2.1
    | choose ss st lo hi => exact ends _ _ _ _ lo hi [] rfl (by rw [ne_eq, ofStr_inj]; decide) (by decide +kernel) o.2.2.2.1
    | first mk st st2 ss lo hi =>
      obtain ⟨_, _, h2, ⟨e1, e2, e3⟩, h3, h4, h5⟩ := o
      have sh := steep_half st2 h2
      have ss2 := steep_small st2 h2
      unfold Th.d
      refine wc_sq ?_; try simp only [DL.wcs, DL.wp, DL.ds, DL.dl, List.set, if_true, if_false, reduceCtorEq, Bool.false_eq_true, eq_self, DL.sz, true_and, DL.tp2, DL.prs, DL.isr, Bool.not_true, Bool.not_false]
      refine idx_tup at0 ?_
      try simp only [DL.wcs, DL.wp, DL.ds, DL.dl, List.set, if_true, if_false, reduceCtorEq, Bool.false_eq_true, eq_self, DL.sz, true_and, DL.tp2, DL.prs, DL.isr, Bool.not_true, Bool.not_false, decide_true]
      refine wc_sq ?_; try simp only [DL.wcs, DL.wp, DL.ds, DL.dl, List.set, if_true, if_false, reduceCtorEq, Bool.false_eq_true, eq_self, DL.sz, true_and, DL.tp2, DL.prs, DL.isr, Bool.not_true, Bool.not_false]
      refine ⟨_, rfl, rfl, ?_⟩
      simp only [List.zip_cons_cons, List.zip_nil_left, List.foldl_cons, List.foldl_nil, List.set]
      refine wc_sq ?_; try simp only [DL.wcs, DL.wp, DL.ds, DL.dl, List.set, if_true, if_false, reduceCtorEq, Bool.false_eq_true, eq_self, DL.sz, true_and, DL.tp2, DL.prs, DL.isr, Bool.not_true, Bool.not_false]
      rw [if_neg (by rw [decide_eq_true_eq]; omega)]
      rw [if_pos (by rw [decide_eq_true_eq]; omega)]
      rw [decide_eq_true h5]
      try simp only [DL.wcs, DL.wp, DL.ds, DL.dl, List.set, if_true, if_false, reduceCtorEq, Bool.false_eq_true, eq_self, DL.sz, true_and, DL.tp2, DL.prs, DL.isr, Bool.not_true, Bool.not_false]
      refine idx_tup rfl ?_
      try simp only [DL.wcs, DL.wp, DL.ds, DL.dl, List.set, if_true, if_false, reduceCtorEq, Bool.false_eq_true, eq_self, DL.sz, true_and, DL.tp2, DL.prs, DL.isr, Bool.not_true, Bool.not_false]
      refine ⟨.inl (.inl ⟨by decide, by decide⟩), idx_tup rfl ?_⟩
      try simp only [DL.wcs, DL.wp, DL.ds, DL.dl, List.set, if_true, if_false, reduceCtorEq, Bool.false_eq_true, eq_self, DL.sz, true_and, DL.tp2, DL.prs, DL.isr, Bool.not_true, Bool.not_false]
      rw [decide_eq_false (by omega)]
      exact k
  | lt x t r =>
    cases h1
    cases h2
    exact other _ _ rfl (by rw [ne_eq, ofStr_inj]; decide) (by decide +kernel)
  | tell t r =>
    cases h1
    cases h2
    exact other _ _ rfl (by rw [ne_eq, ofStr_inj]; decide) (by decide +kernel)
  | whn t a b r =>
    cases h1
    cases h2
    exact other _ _ rfl (by rw [ne_eq, ofStr_inj]; decide) (by decide +kernel)
  | tms n a r =>
    cases h1
    cases h2
    exact other _ _ rfl (by rw [ne_eq, ofStr_inj]; decide) (by decide +kernel)
def TellsFn (n : Nat) (Φ : Call) : Prop := ∀ (r : Rws) (m : Int) (ks : List Str) (S : Sto) (Q : QD) (X : XD), r.nest ≤ n → r.Ok m ks → Q (.int r.tells) S → Φ 48 [.tup r.l] S Q X
theorem tells_in_ok {G : GT} {Φ : Call} {n : Nat} (hr : ∀ m, n = m + 1 → TellsFn m Φ) {r : Rws} {m : Int} {ks : List Str} {S : Sto} {Q : QD} {X : XD} (hn : r.nest ≤ n) (ok : r.Ok m ks) (k : Q (.int r.tells) S) :
    wc G Φ f_tells_in_6c45.body (endsD Q X) (startD 3 [.tup r.l]) S := by
  unfold f_tells_in_6c45
  show wc G Φ _ (endsD Q X) [some (D.tup r.l), none, none] S
  refine wc_sq ?_; try simp only [DL.wcs, DL.wp, DL.ds, DL.dl, List.set, if_true, if_false, reduceCtorEq, Bool.false_eq_true, eq_self, DL.sz, true_and, DL.tp2, DL.prs, DL.isr, Bool.not_true, Bool.not_false]
  refine wc_sq ?_; try simp only [DL.wcs, DL.wp, DL.ds, DL.dl, List.set, if_true, if_false, reduceCtorEq, Bool.false_eq_true, eq_self, DL.sz, true_and, DL.tp2, DL.prs, DL.isr, Bool.not_true, Bool.not_false]
  refine for_inv (fun i ρ S' => ∃ (s1 s2 : Rws) (o2 : Option D), ρ = [some (D.tup r.l), some (D.int s1.tells), o2] ∧ r = s1.app s2 ∧ s1.l.length = i ∧ S' = S) ⟨.nil, r, none, rfl, rfl, rfl, rfl⟩ (fun _ _ _ _ => trivial) ?_ ?_
  · rintro i d ρ S1 N hx ⟨s1, s2, o2, rfl, er, el, rfl⟩ hN
    obtain ⟨one, s', e2, g1, g2, g3, g4, g5, g6⟩ := Rws.turn er el hx
    have o2' := (Rws.ok_split s1 s2 ks (by rw [← er]; exact ok)).2
    have oo := (Rws.ok_split one s' _ (by rw [← e2]; exact o2')).1
    have te : (s1.app one).tells = s1.tells + one.tells := Rws.tells_app _ _
    have out : ∀ t : Int, t = one.tells → N [some (D.tup r.l), some (D.int (s1.tells + t)), some d] S1 := fun t ht => hN _ _ ⟨s1.app one, s', some d, by rw [te, ht], g5, g6, rfl⟩
    cases one with
    | nil => exact g1.elim
    | thr x hh r0 =>
      cases g1
      cases g2
      obtain ⟨t1, t2, t3, t4⟩ := tag_ne2 hh
      have o := out 0 rfl
      rw [Int.add_zero, Th.d_eq] at o
      rw [Th.d_eq]
      try simp only [DL.wcs, DL.wp, DL.ds, DL.dl, List.set, if_true, if_false, reduceCtorEq, Bool.false_eq_true, eq_self, DL.sz, true_and, DL.tp2, DL.prs, DL.isr, Bool.not_true, Bool.not_false]
      refine wc_sq ?_; try simp only [DL.wcs, DL.wp, DL.ds, DL.dl, List.set, if_true, if_false, reduceCtorEq, Bool.false_eq_true, eq_self, DL.sz, true_and, DL.tp2, DL.prs, DL.isr, Bool.not_true, Bool.not_false]
      refine idx_tup at0 ?_
      try simp only [DL.wcs, DL.wp, DL.ds, DL.dl, List.set, if_true, if_false, reduceCtorEq, Bool.false_eq_true, eq_self, DL.sz, true_and, DL.tp2, DL.prs, DL.isr, Bool.not_true, Bool.not_false, decide_eq_true_eq]
      rw [if_neg t2]
      refine wc_sq ?_; try simp only [DL.wcs, DL.wp, DL.ds, DL.dl, List.set, if_true, if_false, reduceCtorEq, Bool.false_eq_true, eq_self, DL.sz, true_and, DL.tp2, DL.prs, DL.isr, Bool.not_true, Bool.not_false]
      refine idx_tup at0 ?_
      try simp only [DL.wcs, DL.wp, DL.ds, DL.dl, List.set, if_true, if_false, reduceCtorEq, Bool.false_eq_true, eq_self, DL.sz, true_and, DL.tp2, DL.prs, DL.isr, Bool.not_true, Bool.not_false, decide_eq_true_eq]
      rw [if_neg t3]
      refine wc_sq ?_; try simp only [DL.wcs, DL.wp, DL.ds, DL.dl, List.set, if_true, if_false, reduceCtorEq, Bool.false_eq_true, eq_self, DL.sz, true_and, DL.tp2, DL.prs, DL.isr, Bool.not_true, Bool.not_false]
      refine idx_tup at0 ?_
      try simp only [DL.wcs, DL.wp, DL.ds, DL.dl, List.set, if_true, if_false, reduceCtorEq, Bool.false_eq_true, eq_self, DL.sz, true_and, DL.tp2, DL.prs, DL.isr, Bool.not_true, Bool.not_false, decide_eq_true_eq]
      rw [if_neg t4]
      exact o
    | lt x t r0 =>
      cases g1
      cases g2
      have o := out 0 rfl
      rw [Int.add_zero] at o
      try simp only [DL.wcs, DL.wp, DL.ds, DL.dl, List.set, if_true, if_false, reduceCtorEq, Bool.false_eq_true, eq_self, DL.sz, true_and, DL.tp2, DL.prs, DL.isr, Bool.not_true, Bool.not_false]
      refine wc_sq ?_; try simp only [DL.wcs, DL.wp, DL.ds, DL.dl, List.set, if_true, if_false, reduceCtorEq, Bool.false_eq_true, eq_self, DL.sz, true_and, DL.tp2, DL.prs, DL.isr, Bool.not_true, Bool.not_false]
      refine idx_tup at0 ?_
      try simp only [DL.wcs, DL.wp, DL.ds, DL.dl, List.set, if_true, if_false, reduceCtorEq, Bool.false_eq_true, eq_self, DL.sz, true_and, DL.tp2, DL.prs, DL.isr, Bool.not_true, Bool.not_false, decide_eq_true_eq, ofStr_inj]
      refine (if_neg (by decide)).mpr ?_
      refine wc_sq ?_; try simp only [DL.wcs, DL.wp, DL.ds, DL.dl, List.set, if_true, if_false, reduceCtorEq, Bool.false_eq_true, eq_self, DL.sz, true_and, DL.tp2, DL.prs, DL.isr, Bool.not_true, Bool.not_false]
      refine idx_tup at0 ?_
      try simp only [DL.wcs, DL.wp, DL.ds, DL.dl, List.set, if_true, if_false, reduceCtorEq, Bool.false_eq_true, eq_self, DL.sz, true_and, DL.tp2, DL.prs, DL.isr, Bool.not_true, Bool.not_false, decide_eq_true_eq, ofStr_inj]
      refine (if_neg (by decide)).mpr ?_
      refine wc_sq ?_; try simp only [DL.wcs, DL.wp, DL.ds, DL.dl, List.set, if_true, if_false, reduceCtorEq, Bool.false_eq_true, eq_self, DL.sz, true_and, DL.tp2, DL.prs, DL.isr, Bool.not_true, Bool.not_false]
      refine idx_tup at0 ?_
      try simp only [DL.wcs, DL.wp, DL.ds, DL.dl, List.set, if_true, if_false, reduceCtorEq, Bool.false_eq_true, eq_self, DL.sz, true_and, DL.tp2, DL.prs, DL.isr, Bool.not_true, Bool.not_false, decide_eq_true_eq, ofStr_inj]
      refine (if_neg (by decide)).mpr ?_
      exact o
    | tell t r0 =>
      cases g1
      cases g2
      have o := out 1 rfl
      try simp only [DL.wcs, DL.wp, DL.ds, DL.dl, List.set, if_true, if_false, reduceCtorEq, Bool.false_eq_true, eq_self, DL.sz, true_and, DL.tp2, DL.prs, DL.isr, Bool.not_true, Bool.not_false]
      refine wc_sq ?_; try simp only [DL.wcs, DL.wp, DL.ds, DL.dl, List.set, if_true, if_false, reduceCtorEq, Bool.false_eq_true, eq_self, DL.sz, true_and, DL.tp2, DL.prs, DL.isr, Bool.not_true, Bool.not_false]
      refine idx_tup at0 ?_
      try simp only [DL.wcs, DL.wp, DL.ds, DL.dl, List.set, if_true, if_false, reduceCtorEq, Bool.false_eq_true, eq_self, DL.sz, true_and, DL.tp2, DL.prs, DL.isr, Bool.not_true, Bool.not_false, decide_true]
      refine wc_sq ?_; try simp only [DL.wcs, DL.wp, DL.ds, DL.dl, List.set, if_true, if_false, reduceCtorEq, Bool.false_eq_true, eq_self, DL.sz, true_and, DL.tp2, DL.prs, DL.isr, Bool.not_true, Bool.not_false]
      exact o
    | whn t a b r0 =>
      cases g1
      cases g2
      have o := out a.tells (by simp only [Rws.tells]; omega)
      obtain ⟨n', rfl⟩ : ∃ n', n = n' + 1 := ⟨n - 1, by simp only [Rws.nest] at g3; omega⟩
      try simp only [DL.wcs, DL.wp, DL.ds, DL.dl, List.set, if_true, if_false, reduceCtorEq, Bool.false_eq_true, eq_self, DL.sz, true_and, DL.tp2, DL.prs, DL.isr, Bool.not_true, Bool.not_false]
      refine wc_sq ?_; try simp only [DL.wcs, DL.wp, DL.ds, DL.dl, List.set, if_true, if_false, reduceCtorEq, Bool.false_eq_true, eq_self, DL.sz, true_and, DL.tp2, DL.prs, DL.isr, Bool.not_true, Bool.not_false]
      refine idx_tup at0 ?_
      try simp only [DL.wcs, DL.wp, DL.ds, DL.dl, List.set, if_true, if_false, reduceCtorEq, Bool.false_eq_true, eq_self, DL.sz, true_and, DL.tp2, DL.prs, DL.isr, Bool.not_true, Bool.not_false, decide_eq_true_eq, ofStr_inj]
      refine (if_neg (by decide)).mpr ?_
      refine wc_sq ?_; try simp only [DL.wcs, DL.wp, DL.ds, DL.dl, List.set, if_true, if_false, reduceCtorEq, Bool.false_eq_true, eq_self, DL.sz, true_and, DL.tp2, DL.prs, DL.isr, Bool.not_true, Bool.not_false]
      refine idx_tup at0 ?_
      try simp only [DL.wcs, DL.wp, DL.ds, DL.dl, List.set, if_true, if_false, reduceCtorEq, Bool.false_eq_true, eq_self, DL.sz, true_and, DL.tp2, DL.prs, DL.isr, Bool.not_true, Bool.not_false, decide_true]
      refine wc_sq ?_; try simp only [DL.wcs, DL.wp, DL.ds, DL.dl, List.set, if_true, if_false, reduceCtorEq, Bool.false_eq_true, eq_self, DL.sz, true_and, DL.tp2, DL.prs, DL.isr, Bool.not_true, Bool.not_false]
      refine idx_tup rfl ?_
      try simp only [DL.wcs, DL.wp, DL.ds, DL.dl, List.set, if_true, if_false, reduceCtorEq, Bool.false_eq_true, eq_self, DL.sz, true_and, DL.tp2, DL.prs, DL.isr, Bool.not_true, Bool.not_false]
      refine hr n' rfl a m _ _ _ _ (by simp only [Rws.nest] at g3; omega) oo.2.1 ?_
      try simp only [DL.wcs, DL.wp, DL.ds, DL.dl, List.set, if_true, if_false, reduceCtorEq, Bool.false_eq_true, eq_self, DL.sz, true_and, DL.tp2, DL.prs, DL.isr, Bool.not_true, Bool.not_false]
      exact o
    | tms c a r0 =>
      cases g1
      cases g2
      have o := out (c * a.tells) (by simp only [Rws.tells]; omega)
      obtain ⟨n', rfl⟩ : ∃ n', n = n' + 1 := ⟨n - 1, by simp only [Rws.nest] at g3; omega⟩
      have c1 := oo.1
      have c3 := oo.2.1
      try simp only [DL.wcs, DL.wp, DL.ds, DL.dl, List.set, if_true, if_false, reduceCtorEq, Bool.false_eq_true, eq_self, DL.sz, true_and, DL.tp2, DL.prs, DL.isr, Bool.not_true, Bool.not_false]
      refine wc_sq ?_; try simp only [DL.wcs, DL.wp, DL.ds, DL.dl, List.set, if_true, if_false, reduceCtorEq, Bool.false_eq_true, eq_self, DL.sz, true_and, DL.tp2, DL.prs, DL.isr, Bool.not_true, Bool.not_false]
      refine idx_tup at0 ?_
      try simp only [DL.wcs, DL.wp, DL.ds, DL.dl, List.set, if_true, if_false, reduceCtorEq, Bool.false_eq_true, eq_self, DL.sz, true_and, DL.tp2, DL.prs, DL.isr, Bool.not_true, Bool.not_false, decide_eq_true_eq, ofStr_inj]
      refine (if_neg (by decide)).mpr ?_
      refine wc_sq ?_; try simp only [DL.wcs, DL.wp, DL.ds, DL.dl, List.set, if_true, if_false, reduceCtorEq, Bool.false_eq_true, eq_self, DL.sz, true_and, DL.tp2, DL.prs, DL.isr, Bool.not_true, Bool.not_false]
      refine idx_tup at0 ?_
      try simp only [DL.wcs, DL.wp, DL.ds, DL.dl, List.set, if_true, if_false, reduceCtorEq, Bool.false_eq_true, eq_self, DL.sz, true_and, DL.tp2, DL.prs, DL.isr, Bool.not_true, Bool.not_false, decide_eq_true_eq, ofStr_inj]
      refine (if_neg (by decide)).mpr ?_
      refine wc_sq ?_; try simp only [DL.wcs, DL.wp, DL.ds, DL.dl, List.set, if_true, if_false, reduceCtorEq, Bool.false_eq_true, eq_self, DL.sz, true_and, DL.tp2, DL.prs, DL.isr, Bool.not_true, Bool.not_false]
      refine idx_tup at0 ?_
      try simp only [DL.wcs, DL.wp, DL.ds, DL.dl, List.set, if_true, if_false, reduceCtorEq, Bool.false_eq_true, eq_self, DL.sz, true_and, DL.tp2, DL.prs, DL.isr, Bool.not_true, Bool.not_false, decide_true]
      refine wc_sq ?_; try simp only [DL.wcs, DL.wp, DL.ds, DL.dl, List.set, if_true, if_false, reduceCtorEq, Bool.false_eq_true, eq_self, DL.sz, true_and, DL.tp2, DL.prs, DL.isr, Bool.not_true, Bool.not_false]
      refine idx_tup rfl (idx_tup rfl ?_)
      try simp only [DL.wcs, DL.wp, DL.ds, DL.dl, List.set, if_true, if_false, reduceCtorEq, Bool.false_eq_true, eq_self, DL.sz, true_and, DL.tp2, DL.prs, DL.isr, Bool.not_true, Bool.not_false]
      refine hr n' rfl a m _ _ _ _ (by simp only [Rws.nest] at g3; omega) oo.2.2.1 ?_
      try simp only [DL.wcs, DL.wp, DL.ds, DL.dl, List.set, if_true, if_false, reduceCtorEq, Bool.false_eq_true, eq_self, DL.sz, true_and, DL.tp2, DL.prs, DL.isr, Bool.not_true, Bool.not_false]
      exact ⟨.inl (.inl ⟨by omega, by omega⟩), o⟩
  · rintro ρ S1 ⟨s1, s2, o2, rfl, er, el, rfl⟩
    rw [← Rws.turns_end er el]
    refine wc_sq ?_; try simp only [DL.wcs, DL.wp, DL.ds, DL.dl, List.set, if_true, if_false, reduceCtorEq, Bool.false_eq_true, eq_self, DL.sz, true_and, DL.tp2, DL.prs, DL.isr, Bool.not_true, Bool.not_false]
    exact k
def AmissFn (Φ : Call) : Prop := ∀ (one : Rws) (d : D) (m : Int) (ks : List Str) (kn : Addr) (S : Sto) (Q : QD) (X : XD), one.single → one.l = [d] → one.Ok m ks → one.nest ≤ 5 → S kn = some (.lst (ks.map D.str)) → (∀ S', Keep [] S S' → Q .non S') → Φ 49 [d, .ref kn] S Q X
theorem asked_ok {one : Rws} {d : D} {m : Int} {ks : List Str} (h1 : one.single) (h2 : one.l = [d]) (ok : one.Ok m ks) : (∀ x ∈ asked one, x ∈ ks) ∧ (asked one).length ≤ 64 := by
  have l : ∀ t : Tm, TOk t ks → (∀ x ∈ t.names, x ∈ ks) ∧ t.names.length ≤ 64 := fun t h => ⟨h.2.1, Nat.le_trans (names_len t) (Nat.pow_le_pow_right (by decide) h.2.2)⟩
  cases one with
  | nil => exact h1.elim
  | thr x hh r => exact ⟨fun _ h => (nomatch h), Nat.zero_le _⟩
  | lt x t r => exact l t ok.2.1
  | tell t r => exact l t ok.1
  | whn t a b r => exact l t ok.1
  | tms n a r => exact ⟨fun _ h => (nomatch h), Nat.zero_le _⟩
theorem bls_true : ∀ n : Nat, blsD ((List.replicate n true).map D.bl) = some (List.replicate n true)
  | 0 => rfl
  | n + 1 => by
    have ih := bls_true n
    show (blsD ((List.replicate n true).map D.bl)).map (true :: ·) = _
    rw [ih]; rfl
theorem amiss_ok {G : GT} {Φ : Call} (hR : RangeFn Φ) (hA : AskFn Φ) (hT : TellsFn 4 Φ) {one : Rws} {d : D} {m : Int} {ks : List Str} {kn : Addr} {S : Sto} {Q : QD} {X : XD} (h1 : one.single) (h2 : one.l = [d]) (ok : one.Ok m ks) (hn : one.nest ≤ 5) (ek : S kn = some (.lst (ks.map D.str))) (k : ∀ S', Keep [] S S' → Q .non S') :
    wc G Φ f_amiss_26b4.body (endsD Q X) (startD 3 [d, .ref kn]) S := by
  unfold f_amiss_26b4
  show wc G Φ _ (endsD Q X) [some d, some (D.ref kn), none] S
  obtain ⟨ak, al⟩ := asked_ok h1 h2 ok
  have hsz : 10000 < sizeLine := by decide
  refine wc_sq ?_; try simp only [DL.wcs, DL.wp, DL.ds, DL.dl, List.set, if_true, if_false, reduceCtorEq, Bool.false_eq_true, eq_self, DL.sz, true_and, DL.tp2, DL.prs, DL.isr, Bool.not_true, Bool.not_false]
  refine hR one d m ks S _ _ h1 h2 ok ?_
  try simp only [DL.wcs, DL.wp, DL.ds, DL.dl, List.set, if_true, if_false, reduceCtorEq, Bool.false_eq_true, eq_self, DL.sz, true_and, DL.tp2, DL.prs, DL.isr, Bool.not_true, Bool.not_false]
  refine wc_sq ?_; try simp only [DL.wcs, DL.wp, DL.ds, DL.dl, List.set, if_true, if_false, reduceCtorEq, Bool.false_eq_true, eq_self, DL.sz, true_and, DL.tp2, DL.prs, DL.isr, Bool.not_true, Bool.not_false]
  refine hA one d m ks S _ _ h1 h2 ok fun q S1 hq e1 K1 => ?_
  try simp only [DL.wcs, DL.wp, DL.ds, DL.dl, List.set, if_true, if_false, reduceCtorEq, Bool.false_eq_true, eq_self, DL.sz, true_and, DL.tp2, DL.prs, DL.isr, Bool.not_true, Bool.not_false]
  refine ⟨_, lstOf_of e1, fun p hp => ?_⟩
  have nqp : q ≠ p := sne e1 hp
  refine lc_inv (fun i acc S' => Keep [] S1 S' ∧ S' q = some (.lst ((asked one).map D.str)) ∧ S' p = some (.lst acc) ∧ acc = (List.replicate i true).map D.bl) ⟨Keep.new hp, by rw [su_ne nqp]; exact e1, su_same, rfl⟩ (fun _ _ _ h => lstOf_of h.2.1) ?_ ?_
  · rintro i x acc S2 N hx ⟨K2, eq2, ep2, rfl⟩ hN
    obtain ⟨w, hw, rfl⟩ : ∃ w, (asked one)[i]? = some w ∧ D.str w = x := by
      rw [List.getElem?_map] at hx
      cases e : (asked one)[i]? with
      | none => rw [e] at hx; cases hx
      | some w => rw [e] at hx; exact ⟨w, rfl, Option.some.inj hx⟩
    have hi : i < (asked one).length := (List.getElem?_eq_some_iff.mp hw).1
    have ek2 := K2 _ _ (by simp) (K1 _ _ (by simp) ek)
    try simp only [DL.wcs, DL.wp, DL.ds, DL.dl, List.set, if_true, if_false, reduceCtorEq, Bool.false_eq_true, eq_self, DL.sz, true_and, DL.tp2, DL.prs, DL.isr, Bool.not_true, Bool.not_false]
    refine in_strs ek2 ?_
    rw [decide_eq_true (ak w (List.mem_of_getElem? hw))]
    refine ⟨_, lstOf_of ep2, by rw [List.length_map, List.length_replicate]; omega, hN ((List.replicate i true).map D.bl ++ [.bl true]) _ ⟨keep_acc K2 hp Keep.refl, by rw [su_ne nqp]; exact eq2, su_same, ?_⟩⟩
    rw [List.replicate_succ', List.map_append]
    rfl
  · rintro acc S2 ⟨K2, eq2, ep2, rfl⟩
    have K02 := K1.trans K2
    refine ⟨_, _, seqD_of ep2, (by intro e; cases e), bls_true _, ?_⟩
    rw [show (List.replicate ((asked one).map D.str).length true).all id = true from by simp]
    try simp only [DL.wcs, DL.wp, DL.ds, DL.dl, List.set, if_true, if_false, reduceCtorEq, Bool.false_eq_true, eq_self, DL.sz, true_and, DL.tp2, DL.prs, DL.isr, Bool.not_true, Bool.not_false]
    refine wc_sq ?_; try simp only [DL.wcs, DL.wp, DL.ds, DL.dl, List.set, if_true, if_false, reduceCtorEq, Bool.false_eq_true, eq_self, DL.sz, true_and, DL.tp2, DL.prs, DL.isr, Bool.not_true, Bool.not_false]
    obtain ⟨w, xs, rfl⟩ := rowD_form h1 h2
    refine idx_tup at0 ?_
    try simp only [DL.wcs, DL.wp, DL.ds, DL.dl, List.set, if_true, if_false, reduceCtorEq, Bool.false_eq_true, eq_self, DL.sz, true_and, DL.tp2, DL.prs, DL.isr, Bool.not_true, Bool.not_false, decide_eq_true_eq]
    by_cases hw : w = Str.ofString "when"
    · rw [if_pos hw]
      cases one with
      | whn t a b r =>
        cases h1
        cases h2
        refine idx_tup rfl ?_
        try simp only [DL.wcs, DL.wp, DL.ds, DL.dl, List.set, if_true, if_false, reduceCtorEq, Bool.false_eq_true, eq_self, DL.sz, true_and, DL.tp2, DL.prs, DL.isr, Bool.not_true, Bool.not_false]
        refine hT a m ks S2 _ _ (by simp only [Rws.nest] at hn; omega) ok.2.1 ?_
        refine idx_tup rfl ?_
        try simp only [DL.wcs, DL.wp, DL.ds, DL.dl, List.set, if_true, if_false, reduceCtorEq, Bool.false_eq_true, eq_self, DL.sz, true_and, DL.tp2, DL.prs, DL.isr, Bool.not_true, Bool.not_false]
        refine hT b m ks S2 _ _ (by simp only [Rws.nest] at hn; omega) ok.2.2.1 ?_
        try simp only [DL.wcs, DL.wp, DL.ds, DL.dl, List.set, if_true, if_false, reduceCtorEq, Bool.false_eq_true, eq_self, DL.sz, true_and, DL.tp2, DL.prs, DL.isr, Bool.not_true, Bool.not_false, ok.2.2.2.1, decide_true]
        refine wc_sq ?_; try simp only [DL.wcs, DL.wp, DL.ds, DL.dl, List.set, if_true, if_false, reduceCtorEq, Bool.false_eq_true, eq_self, DL.sz, true_and, DL.tp2, DL.prs, DL.isr, Bool.not_true, Bool.not_false]
        exact k S2 K02
      | nil => exact h1.elim
      | thr x hh r =>
        cases h1
        rw [show (Rws.thr x hh .nil).l = [hh.d x] from rfl, Th.d_eq] at h2
        cases h2
        exact absurd hw (tag_ne2 hh).2.2.1
      | lt x t r =>
        cases h1
        cases h2
        rw [ofStr_inj] at hw
        exact absurd hw (by decide)
      | tell t r =>
        cases h1
        cases h2
        rw [ofStr_inj] at hw
        exact absurd hw (by decide)
      | tms n a r =>
        cases h1
        cases h2
        rw [ofStr_inj] at hw
        exact absurd hw (by decide)
    · rw [if_neg hw]
      refine wc_sq ?_; try simp only [DL.wcs, DL.wp, DL.ds, DL.dl, List.set, if_true, if_false, reduceCtorEq, Bool.false_eq_true, eq_self, DL.sz, true_and, DL.tp2, DL.prs, DL.isr, Bool.not_true, Bool.not_false]
      exact k S2 K02
end DL

set_option Elab.async false
set_option linter.all false
set_option maxRecDepth 100000
/-! LN: look (k17) -/
namespace DL
open PySem PySem.Spec PyProof.Rows L2

theorem Rws.nf_len : ∀ (r : Rws) (k : List Str), (r.nf k).length ≤ k.length + r.size
  | .nil, _ => Nat.le_refl _
  | .thr x _ r, k => by have := nf_len r (k ++ [x]); simp only [List.length_append, List.length_singleton] at this; simp only [nf, size]; omega
  | .lt x _ r, k => by have := nf_len r (k ++ [x]); simp only [List.length_append, List.length_singleton] at this; simp only [nf, size]; omega
  | .tell _ r, k => by have := nf_len r k; simp only [nf, size]; omega
  | .whn _ a b r, k => by
    have h1 := nf_len r ((a.nf k).filter fun x => decide (x ∈ b.nf k))
    have h2 := List.length_filter_le (fun x => decide (x ∈ b.nf k)) (a.nf k)
    have h3 := nf_len a k
    simp only [nf, size]
    omega
  | .tms _ a r, k => by
    have h1 := nf_len r (a.nf k)
    have h3 := nf_len a k
    simp only [nf, size]
    omega
def LookRowsFn (n : Nat) (Φ : Call) : Prop := ∀ (r : Rws) (m : Int) (ks : List Str) (kn : Addr) (at' : Int) (S : Sto) (Q : QD) (X : XD), r.nest ≤ n → r.Ok m ks → ks.length + r.size ≤ 200000 → S kn = some (.lst (ks.map D.str)) →
  (∀ at2 kn' S', Keep [] S S' → (kn' = kn ∨ S kn' = none) → S' kn' = some (.lst ((r.nf ks).map D.str)) → Q (.tup [.int at2, .ref kn']) S') → Φ 50 [.tup r.l, .int at', .ref kn] S Q X
def LookBehindFn (n : Nat) (Φ : Call) : Prop := ∀ (one : Rws) (d : D) (m : Int) (ks : List Str) (kn : Addr) (at' : Int) (S : Sto) (Q : QD) (X : XD), one.single → one.l = [d] → one.nest ≤ n → one.Ok m ks → ks.length + one.size ≤ 200000 → S kn = some (.lst (ks.map D.str)) →
  (∀ at2 kn' S', Keep [] S S' → (kn' = kn ∨ S kn' = none) → S' kn' = some (.lst ((one.nf ks).map D.str)) → Q (.tup [.int at2, .ref kn']) S') → Φ 51 [d, .int at', .ref kn] S Q X
theorem look_rows_ok {G : GT} {Φ : Call} {n : Nat} (hn5 : n ≤ 5) (hA : AmissFn Φ) (hB : LookBehindFn n Φ) {r : Rws} {m : Int} {ks : List Str} {kn : Addr} {at' : Int} {S : Sto} {Q : QD} {X : XD} (hn : r.nest ≤ n) (ok : r.Ok m ks) (hz : ks.length + r.size ≤ 200000) (ek : S kn = some (.lst (ks.map D.str)))
    (k : ∀ at2 kn' S', Keep [] S S' → (kn' = kn ∨ S kn' = none) → S' kn' = some (.lst ((r.nf ks).map D.str)) → Q (.tup [.int at2, .ref kn']) S') : wc G Φ f_look_rows_1b34.body (endsD Q X) (startD 5 [.tup r.l, .int at', .ref kn]) S := by
  unfold f_look_rows_1b34
  show wc G Φ _ (endsD Q X) [some (D.tup r.l), some (D.int at'), some (D.ref kn), none, none] S
  refine wc_sq ?_; try simp only [DL.wcs, DL.wp, DL.ds, DL.dl, List.set, if_true, if_false, reduceCtorEq, Bool.false_eq_true, eq_self, DL.sz, true_and, DL.tp2, DL.prs, DL.isr, Bool.not_true, Bool.not_false]
  refine for_inv (fun i ρ S' => ∃ (s1 s2 : Rws) (at2 : Int) (kn' : Addr) (o3 o4 : Option D), ρ = [some (D.tup r.l), some (D.int at2), some (D.ref kn'), o3, o4] ∧ r = s1.app s2 ∧ s1.l.length = i ∧ Keep [] S S' ∧ (kn' = kn ∨ S kn' = none) ∧ S' kn' = some (.lst ((s1.nf ks).map D.str)))
    ⟨.nil, r, at', kn, none, none, rfl, rfl, rfl, Keep.refl, .inl rfl, ek⟩ (fun _ _ _ _ => trivial) ?_ ?_
  · rintro i d ρ S1 N hx ⟨s1, s2, at2, kn', o3, o4, rfl, er, el, K1, f1, e1⟩ hN
    obtain ⟨one, s', e2, g1, g2, g3, g4, g5, g6⟩ := Rws.turn er el hx
    have o2' := (Rws.ok_split s1 s2 ks (by rw [← er]; exact ok)).2
    have oo := (Rws.ok_split one s' _ (by rw [← e2]; exact o2')).1
    have z1 : r.size = s1.size + one.size + s'.size := by rw [g5, Rws.size_app, Rws.size_app]
    have l1 := Rws.nf_len s1 ks
    try simp only [DL.wcs, DL.wp, DL.ds, DL.dl, List.set, if_true, if_false, reduceCtorEq, Bool.false_eq_true, eq_self, DL.sz, true_and, DL.tp2, DL.prs, DL.isr, Bool.not_true, Bool.not_false]
    refine wc_sq ?_; try simp only [DL.wcs, DL.wp, DL.ds, DL.dl, List.set, if_true, if_false, reduceCtorEq, Bool.false_eq_true, eq_self, DL.sz, true_and, DL.tp2, DL.prs, DL.isr, Bool.not_true, Bool.not_false]
    refine hA one d m (s1.nf ks) kn' S1 _ _ g1 g2 oo (by omega) e1 fun S2 K2 => ?_
    refine wc_sq ?_; try simp only [DL.wcs, DL.wp, DL.ds, DL.dl, List.set, if_true, if_false, reduceCtorEq, Bool.false_eq_true, eq_self, DL.sz, true_and, DL.tp2, DL.prs, DL.isr, Bool.not_true, Bool.not_false]
    refine wc_sq ?_; try simp only [DL.wcs, DL.wp, DL.ds, DL.dl, List.set, if_true, if_false, reduceCtorEq, Bool.false_eq_true, eq_self, DL.sz, true_and, DL.tp2, DL.prs, DL.isr, Bool.not_true, Bool.not_false]
    refine hB one d m (s1.nf ks) kn' _ S2 _ _ g1 g2 (by omega) oo (by omega) (K2 _ _ (by simp) e1) fun at3 kn2 S3 K3 f3 e3 => ?_
    try simp only [DL.wcs, DL.wp, DL.ds, DL.dl, List.set, if_true, if_false, reduceCtorEq, Bool.false_eq_true, eq_self, DL.sz, true_and, DL.tp2, DL.prs, DL.isr, Bool.not_true, Bool.not_false]
    have K12 := K1.trans K2
    have f4 : kn2 = kn ∨ S kn2 = none := by
      rcases f3 with rfl | f3
      · exact f1
      · exact .inr (K12.none_of f3 (by simp))
    exact hN _ _ ⟨s1.app one, s', _, _, _, _, rfl, g5, g6, K12.trans K3, f4, by rw [Rws.nf_app]; exact e3⟩
  · rintro ρ S1 ⟨s1, s2, at2, kn', o3, o4, rfl, er, el, K1, f1, e1⟩
    rw [← Rws.turns_end er el] at e1
    refine wc_sq ?_; try simp only [DL.wcs, DL.wp, DL.ds, DL.dl, List.set, if_true, if_false, reduceCtorEq, Bool.false_eq_true, eq_self, DL.sz, true_and, DL.tp2, DL.prs, DL.isr, Bool.not_true, Bool.not_false]
    exact k at2 kn' S1 K1 f1 e1
theorem look_behind_ok {G : GT} {Φ : Call} {n : Nat} (hB : BlkFn Φ) (hL : ∀ m, n = m + 1 → LookRowsFn m Φ) {one : Rws} {d : D} {m : Int} {ks : List Str} {kn : Addr} {at' : Int} {S : Sto} {Q : QD} {X : XD} (h1 : one.single) (h2 : one.l = [d]) (hn : one.nest ≤ n) (ok : one.Ok m ks) (hz : ks.length + one.size ≤ 200000) (ek : S kn = some (.lst (ks.map D.str)))
    (k : ∀ at2 kn' S', Keep [] S S' → (kn' = kn ∨ S kn' = none) → S' kn' = some (.lst ((one.nf ks).map D.str)) → Q (.tup [.int at2, .ref kn']) S') : wc G Φ f_look_behind_0449.body (endsD Q X) (startD 7 [d, .int at', .ref kn]) S := by
  unfold f_look_behind_0449
  show wc G Φ _ (endsD Q X) [some d, some (D.int at'), some (D.ref kn), none, none, none, none] S
  have hsz : 1000000 < sizeLine := by decide
  refine wc_sq ?_; try simp only [DL.wcs, DL.wp, DL.ds, DL.dl, List.set, if_true, if_false, reduceCtorEq, Bool.false_eq_true, eq_self, DL.sz, true_and, DL.tp2, DL.prs, DL.isr, Bool.not_true, Bool.not_false]
  intro p hp
  have e0 : su S p (.lst []) p = some (.lst []) := su_same
  have K0 : Keep [] S (su S p (.lst [])) := Keep.new hp
  generalize su S p (.lst []) = S0 at e0 K0
  have ek0 := K0 _ _ (by simp) ek
  -- a row that sets a name
  have sets : ∀ (w x : Str) (xs : List D), d = .tup (.str w :: .str x :: xs) → w ≠ Str.ofString "when" → w ≠ Str.ofString "times" → w ≠ Str.ofString "tell" → one.nf ks = ks ++ [x] →
      wc G Φ (match f_look_behind_0449.body with | .seq _ b => b | c => c) (endsD Q X) [some d, some (D.int at'), some (D.ref kn), some (D.ref p), none, none, none] S0 := by
    intro w x xs e w1 w2 w3 en
    subst e
    unfold f_look_behind_0449
    show wc G Φ (.seq _ _) _ _ _
    refine wc_sq ?_; try simp only [DL.wcs, DL.wp, DL.ds, DL.dl, List.set, if_true, if_false, reduceCtorEq, Bool.false_eq_true, eq_self, DL.sz, true_and, DL.tp2, DL.prs, DL.isr, Bool.not_true, Bool.not_false]
    refine hB.ot w _ S0 _ _ w1 w2 ?_
    try simp only [DL.wcs, DL.wp, DL.ds, DL.dl, List.set, if_true, if_false, reduceCtorEq, Bool.false_eq_true, eq_self, DL.sz, true_and, DL.tp2, DL.prs, DL.isr, Bool.not_true, Bool.not_false]
    refine ⟨trivial, ?_⟩
    refine wc_sq ?_; try simp only [DL.wcs, DL.wp, DL.ds, DL.dl, List.set, if_true, if_false, reduceCtorEq, Bool.false_eq_true, eq_self, DL.sz, true_and, DL.tp2, DL.prs, DL.isr, Bool.not_true, Bool.not_false]
    refine idx_tup at0 ?_
    try simp only [DL.wcs, DL.wp, DL.ds, DL.dl, List.set, if_true, if_false, reduceCtorEq, Bool.false_eq_true, eq_self, DL.sz, true_and, DL.tp2, DL.prs, DL.isr, Bool.not_true, Bool.not_false, decide_eq_true_eq]
    rw [if_neg w1]
    refine wc_sq ?_; try simp only [DL.wcs, DL.wp, DL.ds, DL.dl, List.set, if_true, if_false, reduceCtorEq, Bool.false_eq_true, eq_self, DL.sz, true_and, DL.tp2, DL.prs, DL.isr, Bool.not_true, Bool.not_false]
    refine idx_tup at0 ?_
    try simp only [DL.wcs, DL.wp, DL.ds, DL.dl, List.set, if_true, if_false, reduceCtorEq, Bool.false_eq_true, eq_self, DL.sz, true_and, DL.tp2, DL.prs, DL.isr, Bool.not_true, Bool.not_false, decide_eq_true_eq]
    rw [if_neg w2]
    refine wc_sq ?_; try simp only [DL.wcs, DL.wp, DL.ds, DL.dl, List.set, if_true, if_false, reduceCtorEq, Bool.false_eq_true, eq_self, DL.sz, true_and, DL.tp2, DL.prs, DL.isr, Bool.not_true, Bool.not_false]
    refine idx_tup at0 ?_
    try simp only [DL.wcs, DL.wp, DL.ds, DL.dl, List.set, if_true, if_false, reduceCtorEq, Bool.false_eq_true, eq_self, DL.sz, true_and, DL.tp2, DL.prs, DL.isr, Bool.not_true, Bool.not_false, decide_eq_true_eq]
    rw [if_neg w3]
    refine wc_sq ?_; try simp only [DL.wcs, DL.wp, DL.ds, DL.dl, List.set, if_true, if_false, reduceCtorEq, Bool.false_eq_true, eq_self, DL.sz, true_and, DL.tp2, DL.prs, DL.isr, Bool.not_true, Bool.not_false]
    refine idx_tup (v := .str x) ?_ ?_
    · unfold atI ixN
      rw [if_pos (by decide), if_pos (by simp only [List.length_cons]; omega)]
      rfl
    try simp only [DL.wcs, DL.wp, DL.ds, DL.dl, List.set, if_true, if_false, reduceCtorEq, Bool.false_eq_true, eq_self, DL.sz, true_and, DL.tp2, DL.prs, DL.isr, Bool.not_true, Bool.not_false]
    intro q hq
    have nkq : kn ≠ q := sne ek0 hq
    refine ⟨_, _, lstOf_of (by rw [su_ne nkq]; exact ek0), lstOf_of su_same, by rw [List.length_map]; simp only [List.length_cons, List.length_nil]; omega, fun u hu => ?_⟩
    try simp only [DL.wcs, DL.wp, DL.ds, DL.dl, List.set, if_true, if_false, reduceCtorEq, Bool.false_eq_true, eq_self, DL.sz, true_and, DL.tp2, DL.prs, DL.isr, Bool.not_true, Bool.not_false]
    refine k at' u _ ((K0.trans (Keep.new hq)).trans (Keep.new hu)) (.inr ((K0.trans (Keep.new hq)).none_of hu (by simp))) ?_
    rw [su_same, en, List.map_append]
    rfl
  unfold f_look_behind_0449 at sets
  cases one with
  | nil => exact h1.elim
  | thr x hh r =>
    cases h1
    cases h2
    obtain ⟨t1, t2, t3, t4⟩ := tag_ne2 hh
    refine sets hh.tag x (hh.rest x).tail ?_ t3 t4 t2 rfl
    rw [Th.d_eq]
    cases hh <;> rfl
  | lt x t r =>
    cases h1
    cases h2
    exact sets _ x _ rfl (by rw [ne_eq, ofStr_inj]; decide) (by rw [ne_eq, ofStr_inj]; decide) (by rw [ne_eq, ofStr_inj]; decide) rfl
  | tell t r =>
    cases h1
    cases h2
    refine wc_sq ?_; try simp only [DL.wcs, DL.wp, DL.ds, DL.dl, List.set, if_true, if_false, reduceCtorEq, Bool.false_eq_true, eq_self, DL.sz, true_and, DL.tp2, DL.prs, DL.isr, Bool.not_true, Bool.not_false]
    refine hB.ot _ _ S0 _ _ (by rw [ne_eq, ofStr_inj]; decide) (by rw [ne_eq, ofStr_inj]; decide) ?_
    try simp only [DL.wcs, DL.wp, DL.ds, DL.dl, List.set, if_true, if_false, reduceCtorEq, Bool.false_eq_true, eq_self, DL.sz, true_and, DL.tp2, DL.prs, DL.isr, Bool.not_true, Bool.not_false]
    refine ⟨trivial, ?_⟩
    refine wc_sq ?_; try simp only [DL.wcs, DL.wp, DL.ds, DL.dl, List.set, if_true, if_false, reduceCtorEq, Bool.false_eq_true, eq_self, DL.sz, true_and, DL.tp2, DL.prs, DL.isr, Bool.not_true, Bool.not_false]
    refine idx_tup at0 ?_
    try simp only [DL.wcs, DL.wp, DL.ds, DL.dl, List.set, if_true, if_false, reduceCtorEq, Bool.false_eq_true, eq_self, DL.sz, true_and, DL.tp2, DL.prs, DL.isr, Bool.not_true, Bool.not_false, decide_eq_true_eq, ofStr_inj]
    refine (if_neg (by decide)).mpr ?_
    refine wc_sq ?_; try simp only [DL.wcs, DL.wp, DL.ds, DL.dl, List.set, if_true, if_false, reduceCtorEq, Bool.false_eq_true, eq_self, DL.sz, true_and, DL.tp2, DL.prs, DL.isr, Bool.not_true, Bool.not_false]
    refine idx_tup at0 ?_
    try simp only [DL.wcs, DL.wp, DL.ds, DL.dl, List.set, if_true, if_false, reduceCtorEq, Bool.false_eq_true, eq_self, DL.sz, true_and, DL.tp2, DL.prs, DL.isr, Bool.not_true, Bool.not_false, decide_eq_true_eq, ofStr_inj]
    refine (if_neg (by decide)).mpr ?_
    refine wc_sq ?_; try simp only [DL.wcs, DL.wp, DL.ds, DL.dl, List.set, if_true, if_false, reduceCtorEq, Bool.false_eq_true, eq_self, DL.sz, true_and, DL.tp2, DL.prs, DL.isr, Bool.not_true, Bool.not_false]
    refine idx_tup at0 ?_
    try simp only [DL.wcs, DL.wp, DL.ds, DL.dl, List.set, if_true, if_false, reduceCtorEq, Bool.false_eq_true, eq_self, DL.sz, true_and, DL.tp2, DL.prs, DL.isr, Bool.not_true, Bool.not_false, decide_true]
    refine wc_sq ?_; try simp only [DL.wcs, DL.wp, DL.ds, DL.dl, List.set, if_true, if_false, reduceCtorEq, Bool.false_eq_true, eq_self, DL.sz, true_and, DL.tp2, DL.prs, DL.isr, Bool.not_true, Bool.not_false]
    exact k at' kn S0 K0 (.inl rfl) ek0
  | whn t a b r =>
    cases h1
    cases h2
    obtain ⟨n', rfl⟩ : ∃ n', n = n' + 1 := ⟨n - 1, by simp only [Rws.nest] at hn; omega⟩
    have na : a.nest ≤ n' := by simp only [Rws.nest] at hn; omega
    have nb : b.nest ≤ n' := by simp only [Rws.nest] at hn; omega
    have za : ks.length + a.size ≤ 200000 := by simp only [Rws.size] at hz; omega
    have zb : ks.length + b.size ≤ 200000 := by simp only [Rws.size] at hz; omega
    refine wc_sq ?_; try simp only [DL.wcs, DL.wp, DL.ds, DL.dl, List.set, if_true, if_false, reduceCtorEq, Bool.false_eq_true, eq_self, DL.sz, true_and, DL.tp2, DL.prs, DL.isr, Bool.not_true, Bool.not_false]
    refine hB.wh _ _ _ S0 _ _ ?_
    try simp only [DL.wcs, DL.wp, DL.ds, DL.dl, List.set, if_true, if_false, reduceCtorEq, Bool.false_eq_true, eq_self, DL.sz, true_and, DL.tp2, DL.prs, DL.isr, Bool.not_true, Bool.not_false]
    refine ⟨trivial, ?_⟩
    try simp only [DL.wcs, DL.wp, DL.ds, DL.dl, List.set, if_true, if_false, reduceCtorEq, Bool.false_eq_true, eq_self, DL.sz, true_and, DL.tp2, DL.prs, DL.isr, Bool.not_true, Bool.not_false]
    refine wc_sq ?_; try simp only [DL.wcs, DL.wp, DL.ds, DL.dl, List.set, if_true, if_false, reduceCtorEq, Bool.false_eq_true, eq_self, DL.sz, true_and, DL.tp2, DL.prs, DL.isr, Bool.not_true, Bool.not_false]
    refine hL n' rfl a m ks kn _ S0 _ _ na ok.2.1 za ek0 fun at1 kna S1 K1 fa ea => ?_
    try simp only [DL.wcs, DL.wp, DL.ds, DL.dl, List.set, if_true, if_false, reduceCtorEq, Bool.false_eq_true, eq_self, DL.sz, true_and, DL.tp2, DL.prs, DL.isr, Bool.not_true, Bool.not_false]
    refine wc_sq ?_; try simp only [DL.wcs, DL.wp, DL.ds, DL.dl, List.set, if_true, if_false, reduceCtorEq, Bool.false_eq_true, eq_self, DL.sz, true_and, DL.tp2, DL.prs, DL.isr, Bool.not_true, Bool.not_false]
    have ep1 := K1 _ _ (by simp) e0
    have nkp : kn ≠ p := sne ek hp
    have nap : kna ≠ p := by
      rcases fa with rfl | fa
      · exact nkp
      · exact (sne e0 fa).symm
    refine ⟨⟨_, lstOf_of ep1⟩, _, lstOf_of ep1, by rw [sizeLine_eq]; decide, ?_⟩
    have ek2 : su S1 p (.lst ([] ++ [.ref kna])) kn = some (.lst (ks.map D.str)) := by rw [su_ne nkp]; exact K1 _ _ (by simp) ek0
    have ea2 : su S1 p (.lst ([] ++ [.ref kna])) kna = some (.lst ((a.nf ks).map D.str)) := by rw [su_ne nap]; exact ea
    have ep2 : su S1 p (.lst ([] ++ [.ref kna])) p = some (.lst [.ref kna]) := su_same
    have K2 : Keep [] S (su S1 p (.lst ([] ++ [.ref kna]))) := keep_acc (K0.trans K1) hp Keep.refl
    generalize su S1 p (.lst ([] ++ [.ref kna])) = S2 at ek2 ea2 ep2 K2
    refine ⟨trivial, ?_⟩
    try simp only [DL.wcs, DL.wp, DL.ds, DL.dl, List.set, if_true, if_false, reduceCtorEq, Bool.false_eq_true, eq_self, DL.sz, true_and, DL.tp2, DL.prs, DL.isr, Bool.not_true, Bool.not_false]
    refine wc_sq ?_; try simp only [DL.wcs, DL.wp, DL.ds, DL.dl, List.set, if_true, if_false, reduceCtorEq, Bool.false_eq_true, eq_self, DL.sz, true_and, DL.tp2, DL.prs, DL.isr, Bool.not_true, Bool.not_false]
    refine hL n' rfl b m ks kn _ S2 _ _ nb ok.2.2.1 zb ek2 fun at2 knb S3 K3 fb eb => ?_
    try simp only [DL.wcs, DL.wp, DL.ds, DL.dl, List.set, if_true, if_false, reduceCtorEq, Bool.false_eq_true, eq_self, DL.sz, true_and, DL.tp2, DL.prs, DL.isr, Bool.not_true, Bool.not_false]
    refine wc_sq ?_; try simp only [DL.wcs, DL.wp, DL.ds, DL.dl, List.set, if_true, if_false, reduceCtorEq, Bool.false_eq_true, eq_self, DL.sz, true_and, DL.tp2, DL.prs, DL.isr, Bool.not_true, Bool.not_false]
    have ep3 := K3 _ _ (by simp) ep2
    have nbp : knb ≠ p := by
      rcases fb with rfl | fb
      · exact nkp
      · exact (sne ep2 fb).symm
    refine ⟨⟨_, lstOf_of ep3⟩, _, lstOf_of ep3, by rw [sizeLine_eq]; show 1 < 16777216; decide, ?_⟩
    have ea4 : su S3 p (.lst ([.ref kna] ++ [.ref knb])) kna = some (.lst ((a.nf ks).map D.str)) := by rw [su_ne nap]; exact K3 _ _ (by simp) ea2
    have eb4 : su S3 p (.lst ([.ref kna] ++ [.ref knb])) knb = some (.lst ((b.nf ks).map D.str)) := by rw [su_ne nbp]; exact eb
    have ep4 : su S3 p (.lst ([.ref kna] ++ [.ref knb])) p = some (.lst [.ref kna, .ref knb]) := su_same
    have K4 : Keep [] S (su S3 p (.lst ([.ref kna] ++ [.ref knb]))) := keep_acc (K2.trans K3) hp Keep.refl
    generalize su S3 p (.lst ([.ref kna] ++ [.ref knb])) = S4 at ea4 eb4 ep4 K4
    refine ⟨trivial, ?_⟩
    refine wc_sq ?_; try simp only [DL.wcs, DL.wp, DL.ds, DL.dl, List.set, if_true, if_false, reduceCtorEq, Bool.false_eq_true, eq_self, DL.sz, true_and, DL.tp2, DL.prs, DL.isr, Bool.not_true, Bool.not_false]
    refine idx_tup at0 ?_
    try simp only [DL.wcs, DL.wp, DL.ds, DL.dl, List.set, if_true, if_false, reduceCtorEq, Bool.false_eq_true, eq_self, DL.sz, true_and, DL.tp2, DL.prs, DL.isr, Bool.not_true, Bool.not_false, decide_true]
    refine wc_sq ?_; try simp only [DL.wcs, DL.wp, DL.ds, DL.dl, List.set, if_true, if_false, reduceCtorEq, Bool.false_eq_true, eq_self, DL.sz, true_and, DL.tp2, DL.prs, DL.isr, Bool.not_true, Bool.not_false]
    refine idx_lst ep4 rfl ⟨_, lstOf_of ea4, fun q hq => ?_⟩
    have nqa : kna ≠ q := sne ea4 hq
    have nqb : knb ≠ q := sne eb4 hq
    have nqp : p ≠ q := sne ep4 hq
    refine lc_inv (fun i acc S' => Keep [] S4 S' ∧ S' q = some (.lst acc) ∧ S' p = some (.lst [.ref kna, .ref knb]) ∧ S' kna = some (.lst ((a.nf ks).map D.str)) ∧ S' knb = some (.lst ((b.nf ks).map D.str)) ∧ acc = (((a.nf ks).take i).filter fun x => decide (x ∈ b.nf ks)).map D.str)
      ⟨Keep.new hq, su_same, by rw [su_ne nqp]; exact ep4, by rw [su_ne nqa]; exact ea4, by rw [su_ne nqb]; exact eb4, rfl⟩ (fun i acc S' hI => lstOf_of hI.2.2.2.1) ?_ ?_
    · rintro i x acc S6 N hx ⟨K6, e6, ep6, ea6, eb6, rfl⟩ hN
      obtain ⟨w, hw, rfl⟩ : ∃ w, (a.nf ks)[i]? = some w ∧ D.str w = x := by
        rw [List.getElem?_map] at hx
        cases e : (a.nf ks)[i]? with
        | none => rw [e] at hx; cases hx
        | some w => rw [e] at hx; exact ⟨w, rfl, Option.some.inj hx⟩
      have tk : (a.nf ks).take (i + 1) = (a.nf ks).take i ++ [w] := by rw [List.take_add_one, hw]; rfl
      try simp only [DL.wcs, DL.wp, DL.ds, DL.dl, List.set, if_true, if_false, reduceCtorEq, Bool.false_eq_true, eq_self, DL.sz, true_and, DL.tp2, DL.prs, DL.isr, Bool.not_true, Bool.not_false]
      refine idx_lst ep6 rfl (in_strs eb6 ?_)
      try simp only [DL.wcs, DL.wp, DL.ds, DL.dl, List.set, if_true, if_false, reduceCtorEq, Bool.false_eq_true, eq_self, DL.sz, true_and, DL.tp2, DL.prs, DL.isr, Bool.not_true, Bool.not_false, decide_eq_true_eq]
      by_cases hm : w ∈ b.nf ks
      · rw [if_pos hm]
        have len : ((((a.nf ks).take i).filter fun x => decide (x ∈ b.nf ks)).map D.str).length < sizeLine := by
          rw [List.length_map]
          have l1 := List.length_filter_le (fun x => decide (x ∈ b.nf ks)) ((a.nf ks).take i)
          have l2 : ((a.nf ks).take i).length ≤ (a.nf ks).length := by rw [List.length_take]; omega
          have l3 := Rws.nf_len a ks
          omega
        refine ⟨_, lstOf_of e6, len, hN ((((a.nf ks).take i).filter fun x => decide (x ∈ b.nf ks)).map D.str ++ [D.str w]) _ ⟨keep_acc K6 hq Keep.refl, su_same, by rw [su_ne nqp]; exact ep6, by rw [su_ne nqa]; exact ea6, by rw [su_ne nqb]; exact eb6, ?_⟩⟩
        rw [tk, List.filter_append, List.map_append]
        simp [hm]
      · rw [if_neg hm]
        refine hN ((((a.nf ks).take i).filter fun x => decide (x ∈ b.nf ks)).map D.str) _ ⟨K6, e6, ep6, ea6, eb6, ?_⟩
        rw [tk, List.filter_append, List.map_append]
        simp [hm]
    · rintro acc S6 ⟨K6, e6, _, _, _, rfl⟩
      rw [List.length_map, List.take_length] at e6
      try simp only [DL.wcs, DL.wp, DL.ds, DL.dl, List.set, if_true, if_false, reduceCtorEq, Bool.false_eq_true, eq_self, DL.sz, true_and, DL.tp2, DL.prs, DL.isr, Bool.not_true, Bool.not_false]
      exact k _ q S6 (K4.trans K6) (.inr (K4.none_of hq (by simp))) e6
  | tms c a r =>
    cases h1
    cases h2
    obtain ⟨n', rfl⟩ : ∃ n', n = n' + 1 := ⟨n - 1, by simp only [Rws.nest] at hn; omega⟩
    have na : a.nest ≤ n' := by simp only [Rws.nest] at hn; omega
    have za : ks.length + a.size ≤ 200000 := by simp only [Rws.size] at hz; omega
    refine wc_sq ?_; try simp only [DL.wcs, DL.wp, DL.ds, DL.dl, List.set, if_true, if_false, reduceCtorEq, Bool.false_eq_true, eq_self, DL.sz, true_and, DL.tp2, DL.prs, DL.isr, Bool.not_true, Bool.not_false]
    refine hB.ti _ _ S0 _ _ ?_
    try simp only [DL.wcs, DL.wp, DL.ds, DL.dl, List.set, if_true, if_false, reduceCtorEq, Bool.false_eq_true, eq_self, DL.sz, true_and, DL.tp2, DL.prs, DL.isr, Bool.not_true, Bool.not_false]
    refine ⟨trivial, ?_⟩
    try simp only [DL.wcs, DL.wp, DL.ds, DL.dl, List.set, if_true, if_false, reduceCtorEq, Bool.false_eq_true, eq_self, DL.sz, true_and, DL.tp2, DL.prs, DL.isr, Bool.not_true, Bool.not_false]
    refine wc_sq ?_; try simp only [DL.wcs, DL.wp, DL.ds, DL.dl, List.set, if_true, if_false, reduceCtorEq, Bool.false_eq_true, eq_self, DL.sz, true_and, DL.tp2, DL.prs, DL.isr, Bool.not_true, Bool.not_false]
    refine hL n' rfl a m ks kn _ S0 _ _ na ok.2.2.1 za ek0 fun at1 kna S1 K1 fa ea => ?_
    try simp only [DL.wcs, DL.wp, DL.ds, DL.dl, List.set, if_true, if_false, reduceCtorEq, Bool.false_eq_true, eq_self, DL.sz, true_and, DL.tp2, DL.prs, DL.isr, Bool.not_true, Bool.not_false]
    refine wc_sq ?_; try simp only [DL.wcs, DL.wp, DL.ds, DL.dl, List.set, if_true, if_false, reduceCtorEq, Bool.false_eq_true, eq_self, DL.sz, true_and, DL.tp2, DL.prs, DL.isr, Bool.not_true, Bool.not_false]
    have ep1 := K1 _ _ (by simp) e0
    have nkp : kn ≠ p := sne ek hp
    have nap : kna ≠ p := by
      rcases fa with rfl | fa
      · exact nkp
      · exact (sne e0 fa).symm
    refine ⟨⟨_, lstOf_of ep1⟩, _, lstOf_of ep1, by rw [sizeLine_eq]; decide, ?_⟩
    have ea2 : su S1 p (.lst ([] ++ [.ref kna])) kna = some (.lst ((a.nf ks).map D.str)) := by rw [su_ne nap]; exact ea
    have ep2 : su S1 p (.lst ([] ++ [.ref kna])) p = some (.lst [.ref kna]) := su_same
    have K2 : Keep [] S (su S1 p (.lst ([] ++ [.ref kna]))) := keep_acc (K0.trans K1) hp Keep.refl
    generalize su S1 p (.lst ([] ++ [.ref kna])) = S2 at ea2 ep2 K2
    refine ⟨trivial, ?_⟩
    refine wc_sq ?_; try simp only [DL.wcs, DL.wp, DL.ds, DL.dl, List.set, if_true, if_false, reduceCtorEq, Bool.false_eq_true, eq_self, DL.sz, true_and, DL.tp2, DL.prs, DL.isr, Bool.not_true, Bool.not_false]
    refine idx_tup at0 ?_
    try simp only [DL.wcs, DL.wp, DL.ds, DL.dl, List.set, if_true, if_false, reduceCtorEq, Bool.false_eq_true, eq_self, DL.sz, true_and, DL.tp2, DL.prs, DL.isr, Bool.not_true, Bool.not_false, decide_eq_true_eq, ofStr_inj]
    refine (if_neg (by decide)).mpr ?_
    refine wc_sq ?_; try simp only [DL.wcs, DL.wp, DL.ds, DL.dl, List.set, if_true, if_false, reduceCtorEq, Bool.false_eq_true, eq_self, DL.sz, true_and, DL.tp2, DL.prs, DL.isr, Bool.not_true, Bool.not_false]
    refine idx_tup at0 ?_
    try simp only [DL.wcs, DL.wp, DL.ds, DL.dl, List.set, if_true, if_false, reduceCtorEq, Bool.false_eq_true, eq_self, DL.sz, true_and, DL.tp2, DL.prs, DL.isr, Bool.not_true, Bool.not_false, decide_true]
    refine wc_sq ?_; try simp only [DL.wcs, DL.wp, DL.ds, DL.dl, List.set, if_true, if_false, reduceCtorEq, Bool.false_eq_true, eq_self, DL.sz, true_and, DL.tp2, DL.prs, DL.isr, Bool.not_true, Bool.not_false]
    refine idx_lst ep2 rfl ?_
    try simp only [DL.wcs, DL.wp, DL.ds, DL.dl, List.set, if_true, if_false, reduceCtorEq, Bool.false_eq_true, eq_self, DL.sz, true_and, DL.tp2, DL.prs, DL.isr, Bool.not_true, Bool.not_false]
    refine k _ kna S2 K2 ?_ ea2
    rcases fa with rfl | fa
    · exact .inl rfl
    · exact .inr (K0.none_of fa (by simp))
end DL

set_option Elab.async false
set_option linter.all false
set_option maxRecDepth 100000
/-! LO: look, the programs alike, the law (k17) -/
namespace DL
open PySem PySem.Spec PyProof.Rows L2

/-- a program that is let by -/
structure LookOk (ks : List Str) (r : Rws) : Prop where
  k1 : 1 ≤ ks.length
  k3 : ks.length ≤ 3
  kn : ks.Nodup
  ok : ∃ m, r.Ok m []
  t1 : 1 ≤ r.tells
  ne : r.nest ≤ 4
  sz : r.size ≤ 90000
def tagD : D → D
  | .tup (.str w :: _) => .str w
  | _ => .non
def tagS : D → Str
  | .tup (.str w :: _) => w
  | _ => ("" : String)
theorem Rws.tell_in {m : Int} : ∀ (r : Rws) (k : List Str), r.Ok m k → (∀ d ∈ r.pre, tagS d ≠ Str.ofString "tell") → r.tells = 0
  | .nil, _, _, _ => rfl
  | .thr _ _ r, _, o, h => tell_in r _ o.2.2 fun d hd => h d (List.mem_cons_of_mem _ hd)
  | .lt _ _ r, _, o, h => tell_in r _ o.2.2 fun d hd => h d (List.mem_cons_of_mem _ hd)
  | .tell t r, _, _, h => absurd rfl (h _ List.mem_cons_self)
  | .whn t a b r, _, o, h => by
    have h1 := tell_in a _ o.2.1 fun d hd => h d (List.mem_cons_of_mem _ (List.mem_append_left _ hd))
    have h2 := tell_in r _ o.2.2.2.2 fun d hd => h d (List.mem_cons_of_mem _ (List.mem_append_right _ (List.mem_append_right _ hd)))
    simp only [tells, h1, h2]; rfl
  | .tms n a r, _, o, h => by
    have h1 := tell_in a _ o.2.2.1 fun d hd => h d (List.mem_cons_of_mem _ (List.mem_append_left _ hd))
    have h2 := tell_in r _ o.2.2.2 fun d hd => h d (List.mem_cons_of_mem _ (List.mem_append_right _ hd))
    simp only [tells, h1, h2]; omega
def LookFn (Φ : Call) : Prop := ∀ (ks : List Str) (r : Rws) (S : Sto) (Q : QD) (X : XD), LookOk ks r → (∀ S', Keep [] S S' → Q (.bl true) S') → Φ 52 [progD ks r] S Q X
theorem look_ok {G : GT} {Φ : Call} (hG : G.cs.lookup (Str.ofString "MOST_KINDS") = some (.int 3)) (hL : LookRowsFn 4 Φ) (hR : RowsInFn Φ) {ks : List Str} {r : Rws} {S : Sto} {Q : QD} {X : XD} (lo : LookOk ks r) (k : ∀ S', Keep [] S S' → Q (.bl true) S') :
    wc G Φ f_look_f18e.body (endsD Q X) (startD 4 [progD ks r]) S := by
  unfold f_look_f18e
  show wc G Φ _ (endsD Q X) [some (progD ks r), none, none, none] S
  obtain ⟨m, ok⟩ := lo.ok
  have k1 := lo.k1
  have k3 := lo.k3
  have hsz : 1000000 < sizeLine := by decide
  have sz := lo.sz
  refine wc_sq ?_; try simp only [DL.wcs, DL.wp, DL.ds, DL.dl, List.set, if_true, if_false, reduceCtorEq, Bool.false_eq_true, eq_self, DL.sz, true_and, DL.tp2, DL.prs, DL.isr, Bool.not_true, Bool.not_false]
  unfold progD
  try simp only [DL.wcs, DL.wp, DL.ds, DL.dl, List.set, if_true, if_false, reduceCtorEq, Bool.false_eq_true, eq_self, DL.sz, true_and, DL.tp2, DL.prs, DL.isr, Bool.not_true, Bool.not_false]
  refine wc_sq ?_; try simp only [DL.wcs, DL.wp, DL.ds, DL.dl, List.set, if_true, if_false, reduceCtorEq, Bool.false_eq_true, eq_self, DL.sz, true_and, DL.tp2, DL.prs, DL.isr, Bool.not_true, Bool.not_false]
  refine len_tup ?_
  try simp only [DL.wcs, DL.wp, DL.ds, DL.dl, List.set, if_true, if_false, reduceCtorEq, Bool.false_eq_true, eq_self, DL.sz, true_and, DL.tp2, DL.prs, DL.isr, Bool.not_true, Bool.not_false, List.length_map]
  rw [decide_eq_false (by omega)]
  try simp only [DL.wcs, DL.wp, DL.ds, DL.dl, List.set, if_true, if_false, reduceCtorEq, Bool.false_eq_true, eq_self, DL.sz, true_and, DL.tp2, DL.prs, DL.isr, Bool.not_true, Bool.not_false]
  refine len_tup ⟨_, hG, ?_⟩
  try simp only [DL.wcs, DL.wp, DL.ds, DL.dl, List.set, if_true, if_false, reduceCtorEq, Bool.false_eq_true, eq_self, DL.sz, true_and, DL.tp2, DL.prs, DL.isr, Bool.not_true, Bool.not_false, List.length_map]
  rw [decide_eq_false (by omega)]
  try simp only [DL.wcs, DL.wp, DL.ds, DL.dl, List.set, if_true, if_false, reduceCtorEq, Bool.false_eq_true, eq_self, DL.sz, true_and, DL.tp2, DL.prs, DL.isr, Bool.not_true, Bool.not_false]
  refine wc_sq ?_; try simp only [DL.wcs, DL.wp, DL.ds, DL.dl, List.set, if_true, if_false, reduceCtorEq, Bool.false_eq_true, eq_self, DL.sz, true_and, DL.tp2, DL.prs, DL.isr, Bool.not_true, Bool.not_false]
  refine ⟨_, ks, rfl, strsD_map ks, by omega, len_tup ?_⟩
  try simp only [DL.wcs, DL.wp, DL.ds, DL.dl, List.set, if_true, if_false, reduceCtorEq, Bool.false_eq_true, eq_self, DL.sz, true_and, DL.tp2, DL.prs, DL.isr, Bool.not_true, Bool.not_false, List.length_map]
  rw [DLS.many_nodup lo.kn _ (Nat.le_refl _), decide_eq_false (by omega)]
  try simp only [DL.wcs, DL.wp, DL.ds, DL.dl, List.set, if_true, if_false, reduceCtorEq, Bool.false_eq_true, eq_self, DL.sz, true_and, DL.tp2, DL.prs, DL.isr, Bool.not_true, Bool.not_false]
  refine wc_sq ?_; try simp only [DL.wcs, DL.wp, DL.ds, DL.dl, List.set, if_true, if_false, reduceCtorEq, Bool.false_eq_true, eq_self, DL.sz, true_and, DL.tp2, DL.prs, DL.isr, Bool.not_true, Bool.not_false]
  intro q hq
  refine hL r m [] q 0 _ _ _ lo.ne ok (by show 0 + r.size ≤ 200000; omega) su_same fun at2 kn' S1 K1 _ _ => ?_
  have K01 : Keep [] S S1 := (Keep.new hq).trans K1
  refine wc_sq ?_; try simp only [DL.wcs, DL.wp, DL.ds, DL.dl, List.set, if_true, if_false, reduceCtorEq, Bool.false_eq_true, eq_self, DL.sz, true_and, DL.tp2, DL.prs, DL.isr, Bool.not_true, Bool.not_false]
  refine hR ks r S1 _ _ (by have := lo.ne; omega) (by omega) fun u S2 hu e2 K2 => ?_
  refine ⟨_, lstOf_of e2, fun p hp => ?_⟩
  have nup : u ≠ p := sne e2 hp
  refine lc_inv (fun i acc S' => Keep [] S2 S' ∧ S' u = some (.lst r.pre) ∧ S' p = some (.lst acc) ∧ acc = ((r.pre.take i).map tagS).map D.str) ⟨Keep.new hp, by rw [su_ne nup]; exact e2, su_same, rfl⟩ (fun _ _ _ h => lstOf_of h.2.1) ?_ ?_
  · rintro i d acc S3 N hx ⟨K3, eu, ep, rfl⟩ hN
    obtain ⟨w, xs, rfl⟩ := Rws.pre_form r d (List.mem_of_getElem? hx)
    have tk : r.pre.take (i + 1) = r.pre.take i ++ [.tup (.str w :: xs)] := by rw [List.take_add_one, hx]; rfl
    try simp only [DL.wcs, DL.wp, DL.ds, DL.dl, List.set, if_true, if_false, reduceCtorEq, Bool.false_eq_true, eq_self, DL.sz, true_and, DL.tp2, DL.prs, DL.isr, Bool.not_true, Bool.not_false]
    refine idx_tup at0 ?_
    have ln : (((r.pre.take i).map tagS).map D.str).length < sizeLine := by
      rw [List.length_map, List.length_map, List.length_take, Rws.pre_len]; omega
    refine ⟨_, lstOf_of ep, ln, hN (((r.pre.take i).map tagS).map D.str ++ [.str w]) _ ⟨keep_acc K3 hp Keep.refl, by rw [su_ne nup]; exact eu, su_same, ?_⟩⟩
    rw [tk, List.map_append, List.map_append]
    rfl
  · rintro acc S3 ⟨K3, eu, ep, rfl⟩
    rw [List.take_length] at ep
    have K := (K01.trans K2).trans K3
    have hm : Str.ofString "tell" ∈ r.pre.map tagS := by
      apply Classical.byContradiction
      intro hm
      have h0 := Rws.tell_in r [] ok fun d hd e => hm (List.mem_map.mpr ⟨d, hd, e⟩)
      have := lo.t1
      omega
    refine .inl ⟨_, seqD_of ep, rfl, flat_strs _, ?_⟩
    rw [memF_str, decide_eq_true hm]
    try simp only [DL.wcs, DL.wp, DL.ds, DL.dl, List.set, if_true, if_false, reduceCtorEq, Bool.false_eq_true, eq_self, DL.sz, true_and, DL.tp2, DL.prs, DL.isr, Bool.not_true, Bool.not_false, bne_self_eq_false]
    refine wc_sq ?_; try simp only [DL.wcs, DL.wp, DL.ds, DL.dl, List.set, if_true, if_false, reduceCtorEq, Bool.false_eq_true, eq_self, DL.sz, true_and, DL.tp2, DL.prs, DL.isr, Bool.not_true, Bool.not_false]
    exact k S3 K
/-! ### programs alike -/
theorem Rws.nf_mono : ∀ (r : Rws) {k k' : List Str}, (∀ x ∈ k, x ∈ k') → ∀ x ∈ r.nf k, x ∈ r.nf k'
  | .nil, _, _, h => h
  | .thr x _ r, k, k', h => nf_mono r fun y hy => by
    rcases List.mem_append.mp hy with hy | hy
    · exact List.mem_append_left _ (h y hy)
    · exact List.mem_append_right _ hy
  | .lt x _ r, k, k', h => nf_mono r fun y hy => by
    rcases List.mem_append.mp hy with hy | hy
    · exact List.mem_append_left _ (h y hy)
    · exact List.mem_append_right _ hy
  | .tell _ r, _, _, h => nf_mono r h
  | .whn _ a b r, k, k', h => nf_mono r fun y hy => by
    obtain ⟨h1, h2⟩ := List.mem_filter.mp hy
    exact List.mem_filter.mpr ⟨nf_mono a h y h1, decide_eq_true (nf_mono b h y (of_decide_eq_true h2))⟩
  | .tms _ a r, _, _, h => nf_mono r (nf_mono a h)
theorem TOk.mono {t : Tm} {k k' : List Str} (o : TOk t k) (h : ∀ x ∈ k, x ∈ k') : TOk t k' := ⟨o.1, fun x hx => h x (o.2.1 x hx), o.2.2⟩
theorem snoc_mono {k k' : List Str} {x : Str} (h : ∀ x ∈ k, x ∈ k') : ∀ y ∈ k ++ [x], y ∈ k' ++ [x] := fun y hy => by
  rcases List.mem_append.mp hy with hy | hy
  · exact List.mem_append_left _ (h y hy)
  · exact List.mem_append_right _ hy
theorem Rws.ok_mono {m : Int} : ∀ (r : Rws) {k k' : List Str}, r.Ok m k → (∀ x ∈ k, x ∈ k') → r.Ok m k'
  | .nil, _, _, _, _ => trivial
  | .thr x _ r, _, _, o, h => ⟨o.1, o.2.1, ok_mono r o.2.2 (snoc_mono h)⟩
  | .lt x _ r, _, _, o, h => ⟨o.1, o.2.1.mono h, ok_mono r o.2.2 (snoc_mono h)⟩
  | .tell _ r, _, _, o, h => ⟨o.1.mono h, ok_mono r o.2 h⟩
  | .whn _ a b r, _, _, o, h => ⟨o.1.mono h, ok_mono a o.2.1 h, ok_mono b o.2.2.1 h, o.2.2.2.1, ok_mono r o.2.2.2.2 fun y hy => by
    obtain ⟨h1, h2⟩ := List.mem_filter.mp hy
    exact List.mem_filter.mpr ⟨nf_mono a h y h1, decide_eq_true (nf_mono b h y (of_decide_eq_true h2))⟩⟩
  | .tms _ a r, _, _, o, h => ⟨o.1, o.2.1, ok_mono a o.2.2.1 h, ok_mono r o.2.2.2 (nf_mono a h)⟩
theorem ProgOk.look {ks : List Str} {r : Rws} (p : ProgOk ks r) : LookOk ks r := ⟨p.k1, p.k3, p.kn, ⟨_, p.ok⟩, p.t1, by have := p.ne; omega, by have := p.sz; omega⟩
/-- no row with blocks -/
theorem Rws.flat_nest : ∀ r : Rws, (∀ d ∈ r.l, tagS d ≠ Str.ofString "when" ∧ tagS d ≠ Str.ofString "times") → r.nest = 0
  | .nil, _ => rfl
  | .thr _ _ r, h => flat_nest r fun d hd => h d (List.mem_cons_of_mem _ hd)
  | .lt _ _ r, h => flat_nest r fun d hd => h d (List.mem_cons_of_mem _ hd)
  | .tell _ r, h => flat_nest r fun d hd => h d (List.mem_cons_of_mem _ hd)
  | .whn _ _ _ r, h => absurd rfl (h _ List.mem_cons_self).1
  | .tms _ _ r, h => absurd rfl (h _ List.mem_cons_self).2
theorem Rws.l_form : ∀ (r : Rws) (d : D), d ∈ r.l → ∃ w xs, d = .tup (.str w :: xs)
  | .nil, _, h => nomatch h
  | .thr x hh r, d, h => by
    rcases List.mem_cons.mp h with rfl | h
    · exact ⟨_, _, Th.d_eq x hh⟩
    · exact l_form r d h
  | .lt _ _ r, d, h => by
    rcases List.mem_cons.mp h with rfl | h
    · exact ⟨_, _, rfl⟩
    · exact l_form r d h
  | .tell _ r, d, h => by
    rcases List.mem_cons.mp h with rfl | h
    · exact ⟨_, _, rfl⟩
    · exact l_form r d h
  | .whn _ _ _ r, d, h => by
    rcases List.mem_cons.mp h with rfl | h
    · exact ⟨_, _, rfl⟩
    · exact l_form r d h
  | .tms _ _ r, d, h => by
    rcases List.mem_cons.mp h with rfl | h
    · exact ⟨_, _, rfl⟩
    · exact l_form r d h
end DL

set_option Elab.async false
set_option linter.all false
set_option maxRecDepth 100000
/-! LQ: the programs alike, the law (k17) -/
namespace DL
open PySem PySem.Spec PyProof.Rows L2

abbrev PR := List Str × Rws
def prD (p : PR) : D := progD p.1 p.2
def zW : Str := "zzzzzzzz"
theorem zW_ok : NmOk zW := by
  have h : zW.cps.toList = [122, 122, 122, 122, 122, 122, 122, 122] := str_at (by decide)
  refine ⟨by rw [len_cps, h]; decide, fun c hc => ?_⟩
  rw [h] at hc
  simp only [List.mem_cons, List.not_mem_nil, or_false, or_self] at hc
  subst hc
  decide
def AlikeFn (Φ : Call) : Prop := ∀ (a l : Addr) (ks : List Str) (r : Rws) (S : Sto) (Q : QD) (X : XD), Deal a l S → ProgOk ks r →
  (∀ (ps : List PR) p S', (∀ q ∈ ps, LookOk q.1 q.2) → ps.length ≤ 6 → S p = none → S' p = some (.lst (ps.map prD)) → Deal a l S' → Keep [a, l] S S' → Q (.ref p) S') → Φ 1003 [.ref a, progD ks r] S Q X
def flatT (d : D) : Bool := decide (tagS d ∉ ([Str.ofString "when", Str.ofString "times"] : List Str))
theorem bls_map : ∀ bs : List Bool, blsD (bs.map D.bl) = some bs
  | [] => rfl
  | b :: bs => by
    have ih := bls_map bs
    show (blsD (bs.map D.bl)).map (b :: ·) = _
    rw [ih]; rfl
theorem tups_add {xs ys : List D} {S : Sto} {Q : QD} (h : xs.length + ys.length ≤ sizeLine) (q : Q (.tup (xs ++ ys)) S) : binD .Add (.tup xs) (.tup ys) S Q := ⟨h, q⟩
theorem alike_ok {G : GT} {Φ : Call} (hd : DrawOk Φ) (hth : ThrowFn Φ) (hnm : NamesFn Φ) {a l : Addr} {ks : List Str} {r : Rws} {S : Sto} {Q : QD} {X : XD} (h : Deal a l S) (po : ProgOk ks r)
    (k : ∀ (ps : List PR) p S', (∀ q ∈ ps, LookOk q.1 q.2) → ps.length ≤ 6 → S p = none → S' p = some (.lst (ps.map prD)) → Deal a l S' → Keep [a, l] S S' → Q (.ref p) S') : wc G Φ l_alike_ea0c.body (endsD Q X) (startD 8 [.ref a, progD ks r]) S := by
  unfold l_alike_ea0c
  show wc G Φ _ (endsD Q X) [some (D.ref a), some (D.tup [.tup (ks.map D.str), .tup r.l]), none, none, none, none, none, none] S
  have k1 := po.k1
  have k3 := po.k3
  have sz := po.sz
  have ne := po.ne
  have t1 := po.t1
  have ok := po.ok
  have ll := Rws.len_l r
  have hsz : 1000000 < sizeLine := by decide
  refine wc_sq ?_; try simp only [DL.wcs, DL.wp, DL.ds, DL.dl, List.set, if_true, if_false, reduceCtorEq, Bool.false_eq_true, eq_self, DL.sz, true_and, DL.tp2, DL.prs, DL.isr, Bool.not_true, Bool.not_false]
  refine wc_sq ?_; try simp only [DL.wcs, DL.wp, DL.ds, DL.dl, List.set, if_true, if_false, reduceCtorEq, Bool.false_eq_true, eq_self, DL.sz, true_and, DL.tp2, DL.prs, DL.isr, Bool.not_true, Bool.not_false]
  refine len_tup ?_
  try simp only [DL.wcs, DL.wp, DL.ds, DL.dl, List.set, if_true, if_false, reduceCtorEq, Bool.false_eq_true, eq_self, DL.sz, true_and, DL.tp2, DL.prs, DL.isr, Bool.not_true, Bool.not_false, List.length_map]
  refine hth a l _ zW S _ _ h (by omega) (by omega) fun th S1 to D1 K1 => ?_
  refine wc_sq ?_; try simp only [DL.wcs, DL.wp, DL.ds, DL.dl, List.set, if_true, if_false, reduceCtorEq, Bool.false_eq_true, eq_self, DL.sz, true_and, DL.tp2, DL.prs, DL.isr, Bool.not_true, Bool.not_false]
  refine tups_add (by simp only [List.length_cons, List.length_nil]; omega) ?_
  try simp only [DL.wcs, DL.wp, DL.ds, DL.dl, List.set, if_true, if_false, reduceCtorEq, Bool.false_eq_true, eq_self, DL.sz, true_and, DL.tp2, DL.prs, DL.isr, Bool.not_true, Bool.not_false]
  refine tups_add (by simp only [List.length_cons, List.length_nil]; omega) ?_
  try simp only [DL.wcs, DL.wp, DL.ds, DL.dl, List.set, if_true, if_false, reduceCtorEq, Bool.false_eq_true, eq_self, DL.sz, true_and, DL.tp2, DL.prs, DL.isr, Bool.not_true, Bool.not_false]
  intro p hp
  have np := D1.nea hp
  have hpS : S p = none := K1.none_of hp (nin2 np)
  -- the first three
  have lo1 : LookOk ks r := po.look
  have lo2 : LookOk ks (.thr zW th r) := ⟨k1, k3, po.kn, ⟨_, zW_ok, to, Rws.ok_mono r ok fun _ h => (nomatch h)⟩, t1, by simp only [Rws.nest]; omega, by simp only [Rws.size]; omega⟩
  have lo3 : LookOk ks (r.app (.thr zW th (.tell (.name zW) .nil))) := ⟨k1, k3, po.kn, ⟨_, Rws.ok_app _ _ _ ok ⟨zW_ok, to, ⟨trivial, fun x hx => by rw [List.mem_singleton.mp hx]; exact List.mem_append_right _ (List.mem_singleton.mpr rfl), by decide⟩, trivial⟩⟩,
    by rw [Rws.tells_app]; simp only [Rws.tells]; omega, by rw [Rws.nest_app]; simp only [Rws.nest]; omega, by rw [Rws.size_app]; simp only [Rws.size]; omega⟩
  have e1 : su S1 p (.lst [prD (ks, r), prD (ks, .thr zW th r), prD (ks, r.app (.thr zW th (.tell (.name zW) .nil)))]) p = some (.lst ([((ks, r) : PR), (ks, .thr zW th r), (ks, r.app (.thr zW th (.tell (.name zW) .nil)))].map prD)) := su_same
  have D2 := D1.new (o := .lst [prD (ks, r), prD (ks, .thr zW th r), prD (ks, r.app (.thr zW th (.tell (.name zW) .nil)))]) hp
  have K2 : Keep [a, l] S (su S1 p (.lst [prD (ks, r), prD (ks, .thr zW th r), prD (ks, r.app (.thr zW th (.tell (.name zW) .nil)))])) := K1.trans (Keep.new hp)
  have ec : prD (ks, r.app (.thr zW th (.tell (.name zW) .nil))) = .tup [.tup (ks.map D.str), .tup (r.l ++ [th.d zW, .tup [.str "tell", .tup [.str "name", .str zW]]])] := by
    unfold prD progD
    rw [Rws.l_app]
    rfl
  rw [ec] at e1 D2 K2
  change wc G Φ _ _ _ (su S1 p (.lst [prD (ks, r), prD (ks, .thr zW th r), .tup [.tup (ks.map D.str), .tup (r.l ++ [th.d zW, .tup [.str "tell", .tup [.str "name", .str zW]]])]]))
  generalize su S1 p (.lst [prD (ks, r), prD (ks, .thr zW th r), .tup [.tup (ks.map D.str), .tup (r.l ++ [th.d zW, .tup [.str "tell", .tup [.str "name", .str zW]]])]]) = S2 at e1 D2 K2
  have lo : ∀ q ∈ ([((ks, r) : PR), (ks, .thr zW th r), (ks, r.app (.thr zW th (.tell (.name zW) .nil)))] : List PR), LookOk q.1 q.2 := by
    intro q hq
    simp only [List.mem_cons, List.not_mem_nil, or_false] at hq
    rcases hq with rfl | rfl | rfl
    · exact lo1
    · exact lo2
    · exact lo3
  have l3 : ([((ks, r) : PR), (ks, .thr zW th r), (ks, r.app (.thr zW th (.tell (.name zW) .nil)))] : List PR).length = 3 := rfl
  generalize ([((ks, r) : PR), (ks, .thr zW th r), (ks, r.app (.thr zW th (.tell (.name zW) .nil)))] : List PR) = ps at e1 lo l3
  refine wc_sq ?_; try simp only [DL.wcs, DL.wp, DL.ds, DL.dl, List.set, if_true, if_false, reduceCtorEq, Bool.false_eq_true, eq_self, DL.sz, true_and, DL.tp2, DL.prs, DL.isr, Bool.not_true, Bool.not_false]
  refine hnm a l 3 S2 _ _ D2 (by decide) (by decide) fun ws q S3 hq eq lw nw ow D3 K3 => ?_
  have nq := D2.nea hq
  refine len_tup ?_
  try simp only [DL.wcs, DL.wp, DL.ds, DL.dl, List.set, if_true, if_false, reduceCtorEq, Bool.false_eq_true, eq_self, DL.sz, true_and, DL.tp2, DL.prs, DL.isr, Bool.not_true, Bool.not_false, List.length_map]
  refine ⟨_, lstOf_of eq, fun c hc => ?_⟩
  have ecut : cutD (ws.map D.str) none (some ((ks.length : Nat) : Int)) = (ws.take ks.length).map D.str := by
    rw [cutD_to, List.map_take]
  rw [ecut]
  have lc : (ws.take ks.length).length = ks.length := by rw [List.length_take, lw]; have : (3 : Int).toNat = 3 := rfl
                                                         omega
  have nc : (ws.take ks.length).Nodup := List.Nodup.sublist (List.take_sublist _ _) nw
  have oc : ∀ w ∈ ws.take ks.length, NmOk w := fun w hw => ow w (List.mem_of_mem_take hw)
  have D4 := D3.new (o := .lst ((ws.take ks.length).map D.str)) hc
  have e4 := (Keep.new (M := [a, l]) (o := .lst ((ws.take ks.length).map D.str)) hc) _ _ (nin2 np) (K3 _ _ (nin2 np) e1)
  have ec4 : su S3 c (.lst ((ws.take ks.length).map D.str)) c = some (.lst ((ws.take ks.length).map D.str)) := su_same
  have K4 : Keep [a, l] S (su S3 c (.lst ((ws.take ks.length).map D.str))) := (K2.trans K3).trans (Keep.new hc)
  generalize su S3 c (.lst ((ws.take ks.length).map D.str)) = S4 at D4 e4 ec4 K4
  obtain ⟨c0, cs, ecs⟩ : ∃ c0 cs, ws.take ks.length = c0 :: cs := by
    cases e : ws.take ks.length with
    | nil => rw [e] at lc; simp only [List.length_nil] at lc; omega
    | cons c0 cs => exact ⟨c0, cs, rfl⟩
  refine wc_sq ?_; try simp only [DL.wcs, DL.wp, DL.ds, DL.dl, List.set, if_true, if_false, reduceCtorEq, Bool.false_eq_true, eq_self, DL.sz, true_and, DL.tp2, DL.prs, DL.isr, Bool.not_true, Bool.not_false]
  refine ⟨⟨_, lstOf_of e4⟩, ⟨_, seqD_of ec4, ?_⟩⟩
  refine idx_lst ec4 (v := .str c0) (by rw [ecs]; exact at0) ?_
  try simp only [DL.wcs, DL.wp, DL.ds, DL.dl, List.set, if_true, if_false, reduceCtorEq, Bool.false_eq_true, eq_self, DL.sz, true_and, DL.tp2, DL.prs, DL.isr, Bool.not_true, Bool.not_false]
  refine tups_add (by simp only [List.length_cons, List.length_nil]; omega) ?_
  try simp only [DL.wcs, DL.wp, DL.ds, DL.dl, List.set, if_true, if_false, reduceCtorEq, Bool.false_eq_true, eq_self, DL.sz, true_and, DL.tp2, DL.prs, DL.isr, Bool.not_true, Bool.not_false]
  refine ⟨_, lstOf_of e4, by rw [List.length_map]; omega, ?_⟩
  have lo4 : LookOk (ws.take ks.length) (Rws.lt c0 (.num 0) r) := ⟨by omega, by omega, nc, ⟨_, oc c0 (by rw [ecs]; exact List.mem_cons_self), ⟨⟨by decide, by decide⟩, (fun _ h => nomatch h), by decide⟩, Rws.ok_mono r ok fun _ h => (nomatch h)⟩, t1, by simp only [Rws.nest]; omega, by simp only [Rws.size]; omega⟩
  have e5 : su S4 p (.lst (ps.map prD ++ [prD (ws.take ks.length, Rws.lt c0 (.num 0) r)])) p = some (.lst ((ps ++ [(ws.take ks.length, Rws.lt c0 (.num 0) r)]).map prD)) := by rw [su_same, List.map_append]; rfl
  have D5 := D4.acc (o := .lst (ps.map prD ++ [prD (ws.take ks.length, Rws.lt c0 (.num 0) r)])) np
  have K5 : Keep [a, l] S (su S4 p (.lst (ps.map prD ++ [prD (ws.take ks.length, Rws.lt c0 (.num 0) r)]))) := keep_acc K4 hpS Keep.refl
  change wc G Φ _ _ _ (su S4 p (.lst (ps.map prD ++ [prD (ws.take ks.length, Rws.lt c0 (.num 0) r)])))
  generalize su S4 p (.lst (ps.map prD ++ [prD (ws.take ks.length, Rws.lt c0 (.num 0) r)])) = S5 at e5 D5 K5
  have lo' : ∀ q ∈ ps ++ [(ws.take ks.length, Rws.lt c0 (.num 0) r)], LookOk q.1 q.2 := fun q hq => by
    rcases List.mem_append.mp hq with hq | hq
    · exact lo q hq
    · rw [List.mem_singleton.mp hq]; exact lo4
  have l4 : (ps ++ [(ws.take ks.length, Rws.lt c0 (.num 0) r)]).length = 4 := by rw [List.length_append, l3]; rfl
  generalize ps ++ [(ws.take ks.length, Rws.lt c0 (.num 0) r)] = ps' at e5 lo' l4
  refine sq_then (fun ρ S' => (∃ o6 o7 : Option D, ρ = [some (D.ref a), some (D.tup [.tup (ks.map D.str), .tup r.l]), some (D.tup (ks.map D.str)), some (D.tup r.l), some (th.d zW), some (D.ref p), o6, o7]) ∧ ∃ ps : List PR, (∀ q ∈ ps, LookOk q.1 q.2) ∧ ps.length ≤ 6 ∧ S' p = some (.lst (ps.map prD)) ∧ Deal a l S' ∧ Keep [a, l] S S') ?_ fun N hN => ?_
  · rintro ρ S6 ⟨⟨o6, o7, rfl⟩, ps2, l2, n2, e6, D6, K6⟩
    refine wc_sq ?_; try simp only [DL.wcs, DL.wp, DL.ds, DL.dl, List.set, if_true, if_false, reduceCtorEq, Bool.false_eq_true, eq_self, DL.sz, true_and, DL.tp2, DL.prs, DL.isr, Bool.not_true, Bool.not_false]
    exact k ps2 p S6 l2 n2 hpS e6 D6 K6
  · try simp only [DL.wcs, DL.wp, DL.ds, DL.dl, List.set, if_true, if_false, reduceCtorEq, Bool.false_eq_true, eq_self, DL.sz, true_and, DL.tp2, DL.prs, DL.isr, Bool.not_true, Bool.not_false]
    refine len_tup ?_
    try simp only [DL.wcs, DL.wp, DL.ds, DL.dl, List.set, if_true, if_false, reduceCtorEq, Bool.false_eq_true, eq_self, DL.sz, true_and, DL.tp2, DL.prs, DL.isr, Bool.not_true, Bool.not_false, decide_eq_true_eq]
    have out : ∀ o6 o7, N [some (D.ref a), some (D.tup [.tup (ks.map D.str), .tup r.l]), some (D.tup (ks.map D.str)), some (D.tup r.l), some (th.d zW), some (D.ref p), o6, o7] S5 := fun o6 o7 => hN _ _ ⟨⟨_, _, rfl⟩, ps', lo', by omega, e5, D5, K5⟩
    by_cases hpos : (0 : Int) < (r.l.length : Nat)
    · rw [if_pos hpos]
      intro u hu
      have nu := D5.nea hu
      have npu : p ≠ u := sne e5 hu
      refine lc_inv (fun i acc S' => Keep [] S5 S' ∧ S' u = some (.lst acc) ∧ acc = ((r.l.take i).map flatT).map D.bl) ⟨Keep.new hu, su_same, rfl⟩ (fun _ _ _ _ => trivial) ?_ ?_
      · rintro i d acc S6 N hx ⟨K6, eu, rfl⟩ hN
        obtain ⟨w, xs, rfl⟩ := Rws.l_form r d (List.mem_of_getElem? hx)
        have tk : r.l.take (i + 1) = r.l.take i ++ [.tup (.str w :: xs)] := by rw [List.take_add_one, hx]; rfl
        try simp only [DL.wcs, DL.wp, DL.ds, DL.dl, List.set, if_true, if_false, reduceCtorEq, Bool.false_eq_true, eq_self, DL.sz, true_and, DL.tp2, DL.prs, DL.isr, Bool.not_true, Bool.not_false]
        refine idx_tup at0 ?_
        refine .inl ⟨_, rfl, rfl, flat_strs [Str.ofString "when", Str.ofString "times"], ?_⟩
        rw [show [D.str (Str.ofString "when"), D.str (Str.ofString "times")] = [Str.ofString "when", Str.ofString "times"].map D.str from rfl, memF_str]
        refine ⟨_, lstOf_of eu, by rw [List.length_map, List.length_map, List.length_take]; omega, hN (((r.l.take i).map flatT).map D.bl ++ [_]) _ ⟨keep_acc K6 hu Keep.refl, su_same, ?_⟩⟩
        rw [tk, List.map_append, List.map_append]
        congr 2
        show D.bl _ = D.bl (decide (w ∉ _))
        congr 1
        by_cases hw : w ∈ [Str.ofString "when", Str.ofString "times"] <;> simp [hw]
      · rintro acc S6 ⟨K6, eu, rfl⟩
        rw [List.take_length] at eu
        refine ⟨_, _, seqD_of eu, (by intro e; cases e), bls_map _, ?_⟩
        try simp only [DL.wcs, DL.wp, DL.ds, DL.dl, List.set, if_true, if_false, reduceCtorEq, Bool.false_eq_true, eq_self, DL.sz, true_and, DL.tp2, DL.prs, DL.isr, Bool.not_true, Bool.not_false]
        have D6 := D5.keep K6 (by simp) (by simp)
        have K06 : Keep [a, l] S S6 := K5.trans (K6.wide fun _ h => (nomatch h))
        have e6 := K6 _ _ (by simp) e5
        by_cases hall : ((r.l.map flatT).all id) = true
        · rw [if_pos hall]
          have n0 : r.nest = 0 := Rws.flat_nest r fun d hd => by
            have := List.all_eq_true.mp hall (flatT d) (List.mem_map.mpr ⟨d, hd, rfl⟩)
            have := of_decide_eq_true this
            simp only [List.mem_cons, List.not_mem_nil, or_false, not_or] at this
            exact this
          refine wc_sq ?_; try simp only [DL.wcs, DL.wp, DL.ds, DL.dl, List.set, if_true, if_false, reduceCtorEq, Bool.false_eq_true, eq_self, DL.sz, true_and, DL.tp2, DL.prs, DL.isr, Bool.not_true, Bool.not_false]
          refine ⟨⟨_, lstOf_of e6⟩, hd a l 3 _ _ _ D6 (by decide) (by decide) fun v S7 v0 v1 D7 K7 => ?_⟩
          have e7 := K7 _ _ (nin2 np) e6
          try simp only [DL.wcs, DL.wp, DL.ds, DL.dl, List.set, if_true, if_false, reduceCtorEq, Bool.false_eq_true, eq_self, DL.sz, true_and, DL.tp2, DL.prs, DL.isr, Bool.not_true, Bool.not_false]
          refine ⟨_, lstOf_of e7, by rw [List.length_map]; omega, ?_⟩
          have lo5 : LookOk ks (Rws.tms (1 + v) r .nil) := ⟨k1, k3, po.kn, ⟨_, by omega, by omega, ok, trivial⟩, by
            simp only [Rws.tells]
            have : 1 * r.tells ≤ (1 + v) * r.tells := Int.mul_le_mul_of_nonneg_right (by omega) (by omega)
            omega, by simp only [Rws.nest]; omega, by simp only [Rws.size]; omega⟩
          have e8 : su S7 p (.lst (ps'.map prD ++ [prD (ks, Rws.tms (1 + v) r .nil)])) p = some (.lst ((ps' ++ [(ks, Rws.tms (1 + v) r .nil)]).map prD)) := by rw [su_same, List.map_append]; rfl
          have D8 := D7.acc (o := .lst (ps'.map prD ++ [prD (ks, Rws.tms (1 + v) r .nil)])) np
          have K8 : Keep [a, l] S (su S7 p (.lst (ps'.map prD ++ [prD (ks, Rws.tms (1 + v) r .nil)]))) := keep_acc K06 hpS K7
          change wc G Φ _ _ _ (su S7 p (.lst (ps'.map prD ++ [prD (ks, Rws.tms (1 + v) r .nil)])))
          generalize su S7 p (.lst (ps'.map prD ++ [prD (ks, Rws.tms (1 + v) r .nil)])) = S8 at e8 D8 K8
          have lo6 : ∀ q ∈ ps' ++ [(ks, Rws.tms (1 + v) r .nil)], LookOk q.1 q.2 := fun q hq => by
            rcases List.mem_append.mp hq with hq | hq
            · exact lo' q hq
            · rw [List.mem_singleton.mp hq]; exact lo5
          have l5 : (ps' ++ [(ks, Rws.tms (1 + v) r .nil)]).length = 5 := by rw [List.length_append, l4]; rfl
          generalize ps' ++ [(ks, Rws.tms (1 + v) r .nil)] = ps5 at e8 lo6 l5
          refine wc_sq ?_; try simp only [DL.wcs, DL.wp, DL.ds, DL.dl, List.set, if_true, if_false, reduceCtorEq, Bool.false_eq_true, eq_self, DL.sz, true_and, DL.tp2, DL.prs, DL.isr, Bool.not_true, Bool.not_false]
          refine len_tup ?_
          try simp only [DL.wcs, DL.wp, DL.ds, DL.dl, List.set, if_true, if_false, reduceCtorEq, Bool.false_eq_true, eq_self, DL.sz, true_and, DL.tp2, DL.prs, DL.isr, Bool.not_true, Bool.not_false, decide_eq_true_eq]
          by_cases h6 : ((r.l.length : Nat) : Int) < 6
          · rw [if_pos h6]
            refine wc_sq ?_; try simp only [DL.wcs, DL.wp, DL.ds, DL.dl, List.set, if_true, if_false, reduceCtorEq, Bool.false_eq_true, eq_self, DL.sz, true_and, DL.tp2, DL.prs, DL.isr, Bool.not_true, Bool.not_false]
            refine ⟨⟨_, lstOf_of e8⟩, hd a l 2 _ _ _ D8 (by decide) (by decide) fun v2 S9 w0 w1 D9 K9 => ?_⟩
            have e9 := K9 _ _ (nin2 np) e8
            try simp only [DL.wcs, DL.wp, DL.ds, DL.dl, List.set, if_true, if_false, reduceCtorEq, Bool.false_eq_true, eq_self, DL.sz, true_and, DL.tp2, DL.prs, DL.isr, Bool.not_true, Bool.not_false]
            refine ⟨_, lstOf_of e9, by rw [List.length_map]; omega, ?_⟩
            have lo7 : LookOk ks (Rws.whn (.num v2) r r .nil) := ⟨k1, k3, po.kn, ⟨_, ⟨⟨w0, by omega⟩, (fun _ h => nomatch h), (show 1 ≤ 6 by decide)⟩, ok, ok, rfl, trivial⟩, by simp only [Rws.tells]; omega, by simp only [Rws.nest]; omega, by simp only [Rws.size]; omega⟩
            refine hN _ _ ⟨⟨_, _, rfl⟩, ps5 ++ [(ks, Rws.whn (.num v2) r r .nil)], fun q hq => ?_, by rw [List.length_append, l5]; exact Nat.le_refl 6, ?_, D9.acc np, keep_acc K8 hpS K9⟩
            · rcases List.mem_append.mp hq with hq | hq
              · exact lo6 q hq
              · rw [List.mem_singleton.mp hq]; exact lo7
            · rw [su_same, List.map_append]; rfl
          · rw [if_neg h6]
            exact hN _ _ ⟨⟨_, _, rfl⟩, ps5, lo6, by omega, e8, D8, K8⟩
        · rw [if_neg hall]
          exact hN _ _ ⟨⟨_, _, rfl⟩, ps', lo', by omega, e6, D6, K06⟩
    · rw [if_neg hpos]
      exact out _ _
theorem law17_ok {G : GT} {Φ : Call} (h1 : DealFn Φ) (h2 : ProgramFn Φ) (h3 : AlikeFn Φ) (h4 : LookFn Φ) {ns : List Int} {S : Sto} (hn : ns.length ≤ 63) :
    wc G Φ f_law_35d4.body (endsD (fun d _ => d = .bl true) x0) (startD 5 [.fl (ns.map D.int)]) S := by
  unfold f_law_35d4
  show wc G Φ _ (endsD _ x0) [some (D.fl (ns.map D.int)), none, none, none, none] S
  have hsz : 10000 < sizeLine := by decide
  refine wc_sq ?_; try simp only [DL.wcs, DL.wp, DL.ds, DL.dl, List.set, if_true, if_false, reduceCtorEq, Bool.false_eq_true, eq_self, DL.sz, true_and, DL.tp2, DL.prs, DL.isr, Bool.not_true, Bool.not_false]
  intro p0 hp0
  have e0 : su S p0 (.lst []) p0 = some (.lst (([] : List PR).map prD)) := su_same
  generalize su S p0 (.lst []) = S0 at e0
  refine wc_sq ?_
  try simp only [DL.wcs, DL.wp, DL.ds, DL.dl, List.set, if_true, if_false, reduceCtorEq, Bool.false_eq_true, eq_self, DL.sz, true_and, DL.tp2, DL.prs, DL.isr, Bool.not_true, Bool.not_false]
  intro q hq
  obtain ⟨zs, ez, lz⟩ := cutD_map (ns := ns) (lo := none) (hi := some 4)
  have l4 : (cutD (ns.map D.int) none (some 4)).length ≤ 4 := by
    have := cutD_to (xs := ns.map D.int) (k := 4)
    have e : cutD (ns.map D.int) none (some 4) = (ns.map D.int).take 4 := this
    rw [e, List.length_take]
    omega
  refine len_lst su_same ?_
  try simp only [DL.wcs, DL.wp, DL.ds, DL.dl, List.set, if_true, if_false, reduceCtorEq, Bool.false_eq_true, eq_self, DL.sz, true_and, DL.tp2, DL.prs, DL.isr, Bool.not_true, Bool.not_false]
  have e1 : su S0 q (.lst (cutD (ns.map D.int) none (some 4))) p0 = some (.lst (([] : List PR).map prD)) := by rw [su_ne (sne e0 hq)]; exact e0
  generalize su S0 q (.lst (cutD (ns.map D.int) none (some 4))) = S1 at e1
  generalize hm : (if ((cutD (ns.map D.int) none (some 4)).length : Int) > 2 then ((cutD (ns.map D.int) none (some 4)).length : Int) else 2) = m
  have m0 : 0 ≤ m := by rw [← hm]; split <;> omega
  have m4 : m ≤ 4 := by rw [← hm]; split <;> omega
  refine ⟨by omega, by omega, ?_⟩
  refine for_inv (fun i ρ S' => ∃ (ps : List PR) (p : Addr) (o2 o3 : Option D), ρ = [some (D.fl (ns.map D.int)), some (D.ref p), o2, o3, none] ∧ (∀ q ∈ ps, LookOk q.1 q.2) ∧ ps.length ≤ 6 * i ∧ S' p = some (.lst (ps.map prD)))
    ⟨[], p0, none, none, rfl, (fun _ h => nomatch h), Nat.le_refl _, e1⟩ (fun _ _ _ _ => trivial) ?_ ?_
  · rintro i x ρ S2 N hx ⟨ps, p, o2, o3, rfl, hp, hl, e2⟩ hN
    obtain ⟨hi, rfl⟩ := range_item hx
    try simp only [DL.wcs, DL.wp, DL.ds, DL.dl, List.set, if_true, if_false, reduceCtorEq, Bool.false_eq_true, eq_self, DL.sz, true_and, DL.tp2, DL.prs, DL.isr, Bool.not_true, Bool.not_false]
    refine wc_sq ?_; try simp only [DL.wcs, DL.wp, DL.ds, DL.dl, List.set, if_true, if_false, reduceCtorEq, Bool.false_eq_true, eq_self, DL.sz, true_and, DL.tp2, DL.prs, DL.isr, Bool.not_true, Bool.not_false]
    refine h1 ns (i : Nat) S2 _ _ hn (by omega) (by omega) fun a l S3 D3 ha hl3 K3 => ?_
    have npa : a ≠ p := fun e => by rw [e, e2] at ha; cases ha
    have npl : l ≠ p := fun e => by rw [e, e2] at hl3; cases hl3
    have e3 := K3 _ _ (by simp) e2
    refine wc_sq ?_; try simp only [DL.wcs, DL.wp, DL.ds, DL.dl, List.set, if_true, if_false, reduceCtorEq, Bool.false_eq_true, eq_self, DL.sz, true_and, DL.tp2, DL.prs, DL.isr, Bool.not_true, Bool.not_false]
    refine h2 a l 9 S3 _ _ D3 fun ks r S4 po D4 K4 => ?_
    try simp only [DL.wcs, DL.wp, DL.ds, DL.dl, List.set, if_true, if_false, reduceCtorEq, Bool.false_eq_true, eq_self, DL.sz, true_and, DL.tp2, DL.prs, DL.isr, Bool.not_true, Bool.not_false]
    refine h3 a l ks r S4 _ _ D4 po fun ps2 p2 S5 hp2 hl2 hn2 e5 D5 K5 => ?_
    have e4 := K5 _ _ (nin2 ⟨npa, npl⟩) (K4 _ _ (nin2 ⟨npa, npl⟩) e3)
    refine ⟨_, _, lstOf_of e4, lstOf_of e5, by rw [List.length_map, List.length_map]; omega, fun u hu => ?_⟩
    try simp only [DL.wcs, DL.wp, DL.ds, DL.dl, List.set, if_true, if_false, reduceCtorEq, Bool.false_eq_true, eq_self, DL.sz, true_and, DL.tp2, DL.prs, DL.isr, Bool.not_true, Bool.not_false]
    refine hN _ _ ⟨ps ++ ps2, u, _, _, rfl, fun q hq => ?_, by rw [List.length_append]; omega, by rw [su_same, List.map_append]⟩
    rcases List.mem_append.mp hq with hq | hq
    · exact hp q hq
    · exact hp2 q hq
  · rintro ρ S2 ⟨ps, p, o2, o3, rfl, hp, hl, e2⟩
    have hl : ps.length ≤ 24 := by
      rw [List.length_map, List.length_range] at hl
      omega
    refine wc_sq ?_; try simp only [DL.wcs, DL.wp, DL.ds, DL.dl, List.set, if_true, if_false, reduceCtorEq, Bool.false_eq_true, eq_self, DL.sz, true_and, DL.tp2, DL.prs, DL.isr, Bool.not_true, Bool.not_false]
    refine ⟨_, lstOf_of e2, fun q2 hq2 => ?_⟩
    have ec : cutD (ps.map prD) none (some 2) = (ps.take 2).map prD := by
      have := cutD_to (xs := ps.map prD) (k := 2)
      rw [List.map_take]
      exact this
    rw [ec]
    have npq : p ≠ q2 := sne e2 hq2
    refine ⟨_, _, lstOf_of (by rw [su_ne npq]; exact e2), lstOf_of su_same, by rw [List.length_map, List.length_map, List.length_take]; omega, fun u hu => ?_⟩
    rw [← List.map_append]
    have es : su (su S2 q2 (.lst ((ps.take 2).map prD))) u (.lst ((ps ++ ps.take 2).map prD)) u = some (.lst ((ps ++ ps.take 2).map prD)) := su_same
    generalize su (su S2 q2 (.lst ((ps.take 2).map prD))) u (.lst ((ps ++ ps.take 2).map prD)) = S3 at es
    have hall : ∀ q ∈ ps ++ ps.take 2, LookOk q.1 q.2 := fun q hq => by
      rcases List.mem_append.mp hq with hq | hq
      · exact hp q hq
      · exact hp q (List.mem_of_mem_take hq)
    have lall : (ps ++ ps.take 2).length ≤ 100 := by rw [List.length_append, List.length_take]; omega
    generalize ps ++ ps.take 2 = qs at es hall lall
    refine ⟨_, lstOf_of es, fun v hv => ?_⟩
    have nuv : u ≠ v := sne es hv
    refine lc_inv (fun i acc S' => Keep [] S3 S' ∧ S' u = some (.lst (qs.map prD)) ∧ S' v = some (.lst acc) ∧ acc = (List.replicate i true).map D.bl) ⟨Keep.new hv, by rw [su_ne nuv]; exact es, su_same, rfl⟩ (fun _ _ _ h => lstOf_of h.2.1) ?_ ?_
    · rintro i x acc S4 N hx ⟨K4, eu, ev, rfl⟩ hN
      rw [List.getElem?_map] at hx
      cases e : qs[i]? with
      | none => rw [e] at hx; cases hx
      | some z =>
        rw [e] at hx
        obtain rfl : prD z = x := Option.some.inj hx
        have hi : i < qs.length := (List.getElem?_eq_some_iff.mp e).1
        try simp only [DL.wcs, DL.wp, DL.ds, DL.dl, List.set, if_true, if_false, reduceCtorEq, Bool.false_eq_true, eq_self, DL.sz, true_and, DL.tp2, DL.prs, DL.isr, Bool.not_true, Bool.not_false]
        refine h4 z.1 z.2 S4 _ _ (hall z (List.mem_of_getElem? e)) fun S5 K5 => ?_
        try simp only [DL.wcs, DL.wp, DL.ds, DL.dl, List.set, if_true, if_false, reduceCtorEq, Bool.false_eq_true, eq_self, DL.sz, true_and, DL.tp2, DL.prs, DL.isr, Bool.not_true, Bool.not_false, decide_true]
        have ev5 := K5 _ _ (by simp) ev
        refine ⟨_, lstOf_of ev5, by rw [List.length_map, List.length_replicate]; omega, hN ((List.replicate i true).map D.bl ++ [.bl true]) _ ⟨keep_acc K4 hv K5, by rw [su_ne nuv]; exact K5 _ _ (by simp) eu, su_same, ?_⟩⟩
        rw [List.replicate_succ', List.map_append]
        rfl
    · rintro acc S4 ⟨K4, eu, ev, rfl⟩
      refine ⟨_, _, seqD_of ev, (by intro e; cases e), bls_true _, ?_⟩
      simp
end DL

set_option Elab.async false
set_option linter.all false
set_option maxRecDepth 100000
set_option maxHeartbeats 0
namespace K17
open PySem PySem.Spec PyProof.Rows L2 DL
def defs : Nat → Option Fd
  | 82 => some f_blocks_in_87b1
  | 83 => some f_rows_within_fee7
  | 84 => some f_rows_in_c768
  | 45 => some f_names_in_ed56
  | 46 => some f_names_asked_dfaa
  | 47 => some f_is_out_of_range_1093
  | 48 => some f_tells_in_6c45
  | 49 => some f_amiss_26b4
  | 50 => some f_look_rows_1b34
  | 51 => some f_look_behind_0449
  | 52 => some f_look_f18e
  | 1020 => some l_deal_6082
  | 1022 => some l_draw_ade5
  | 1062 => some l_names_f643
  | 1117 => some l_sum_f287
  | 1115 => some l_steep_3265
  | 1127 => some l_throw_e024
  | 1124 => some l_term_77e0
  | 1108 => some l_setting_a142
  | 1138 => some l_when_2570
  | 1012 => some l_block_57fe
  | 1089 => some l_program_293e
  | 1003 => some l_alike_ea0c
  | 1144 => some f_law_35d4
  | _ => none
def fnL : List (Nat × Str) := [(82, "blocks_in"), (83, "rows_within"), (84, "rows_in"), (45, "names_in"), (46, "names_asked"), (47, "is_out_of_range"), (48, "tells_in"), (49, "amiss"), (50, "look_rows"), (51, "look_behind"), (52, "look"), (1020, "_law_deal"), (1022, "_law_draw"), (1062, "_law_names"), (1117, "_law_sum"), (1115, "_law_steep"), (1127, "_law_throw"), (1124, "_law_term"), (1108, "_law_setting"), (1138, "_law_when"), (1012, "_law_block"), (1089, "_law_program"), (1003, "_law_alike"), (1144, "law")]
def G : GT where
  fn := fun n => fnL.lookup n
  cs := [("MOST_KINDS", .int 3)]
  free := ["all", "int", "len", "list", "max", "range", "reversed", "set", "tuple"]
def top (i : Nat) : Stmt := PySem.Challenge.pw_pairedthrows_k17_programs_let_by.main.body.getD i (.Pass ⟨0, 0, 0, 0⟩)
def t82 : DefT := ⟨82, "blocks_in", top 4, ["row"], ["row"]⟩
def t83 : DefT := ⟨83, "rows_within", top 5, ["rows", "found", "row", "block"], ["rows"]⟩
def t84 : DefT := ⟨84, "rows_in", top 6, ["program"], ["program"]⟩
def t45 : DefT := ⟨45, "names_in", top 9, ["term"], ["term"]⟩
def t46 : DefT := ⟨46, "names_asked", top 10, ["row"], ["row"]⟩
def t47 : DefT := ⟨47, "is_out_of_range", top 11, ["row", "word", "x", "mark", "a", "b", "sums", "low", "high"], ["row"]⟩
def t48 : DefT := ⟨48, "tells_in", top 12, ["rows", "many", "row"], ["rows"]⟩
def t49 : DefT := ⟨49, "amiss", top 13, ["row", "known", "x"], ["row", "known"]⟩
def t50 : DefT := ⟨50, "look_rows", top 14, ["rows", "at", "known", "row", "word"], ["rows", "at", "known"]⟩
def t51 : DefT := ⟨51, "look_behind", top 15, ["row", "at", "known", "some", "block", "names", "x"], ["row", "at", "known"]⟩
def t52 : DefT := ⟨52, "look", top 16, ["program", "kinds", "rows", "row"], ["program"]⟩
def t1020 : DefT := ⟨1020, "_law_deal", top 18, ["_law_script", "_law_base", "_law_cells", "_law_number", "_law_cell"], ["_law_script", "_law_base"]⟩
def t1022 : DefT := ⟨1022, "_law_draw", top 19, ["_law_deal_here", "_law_many", "_law_number", "_law_one", "_law_other"], ["_law_deal_here", "_law_many"]⟩
def t1062 : DefT := ⟨1062, "_law_names", top 20, ["_law_deal_here", "_law_many", "_law_letters", "_law_core", "_law_at", "_law_turn", "_law_found", "_law_k", "_law_word"], ["_law_deal_here", "_law_many"]⟩
def t1117 : DefT := ⟨1117, "_law_sum", top 21, ["_law_deal_here", "_law_many", "_law_k"], ["_law_deal_here", "_law_many"]⟩
def t1115 : DefT := ⟨1115, "_law_steep", top 22, ["_law_deal_here", "_law_most", "_law_some"], ["_law_deal_here", "_law_most"]⟩
def t1127 : DefT := ⟨1127, "_law_throw", top 23, ["_law_deal_here", "_law_many", "_law_x", "_law_form", "_law_least", "_law_low", "_law_high", "_law_sums", "_law_mark", "_law_k"], ["_law_deal_here", "_law_many", "_law_x"]⟩
def t1124 : DefT := ⟨1124, "_law_term", top 24, ["_law_deal_here", "_law_known", "_law_room", "_law_deep", "_law_part", "_law_one"], ["_law_deal_here", "_law_known", "_law_room", "_law_deep"]⟩
def t1108 : DefT := ⟨1108, "_law_setting", top 25, ["_law_deal_here", "_law_scene", "_law_known", "_law_x"], ["_law_deal_here", "_law_scene", "_law_known", "_law_x"]⟩
def t1138 : DefT := ⟨1138, "_law_when", top 26, ["_law_deal_here", "_law_scene", "_law_known", "_law_tells", "_law_deep", "_law_term_here", "_law_one", "_law_ones", "_law_other", "_law_others", "_law_name"], ["_law_deal_here", "_law_scene", "_law_known", "_law_tells", "_law_deep"]⟩
def t1012 : DefT := ⟨1012, "_law_block", top 27, ["_law_deal_here", "_law_scene", "_law_known", "_law_tells", "_law_deep", "_law_rows", "_law_k", "_law_form", "_law_inner", "_law_turns", "_law_x", "_law_row"], ["_law_deal_here", "_law_scene", "_law_known", "_law_tells", "_law_deep"]⟩
def t1089 : DefT := ⟨1089, "_law_program", top 28, ["_law_deal_here", "_law_most", "_law_many", "_law_tells", "_law_kinds", "_law_names_here", "_law_scene", "_law_rows", "_law_known", "_law_k"], ["_law_deal_here", "_law_most"]⟩
def t1003 : DefT := ⟨1003, "_law_alike", top 29, ["_law_deal_here", "_law_program_here", "_law_kinds", "_law_rows", "_law_more", "_law_found", "_law_called", "_law_row"], ["_law_deal_here", "_law_program_here"]⟩
def t1144 : DefT := ⟨1144, "law", top 30, ["_law_script", "_law_asked", "_law_k", "_law_deal_here", "_law_program_here"], ["_law_script"]⟩
def dts : List DefT := [t82, t83, t84, t45, t46, t47, t48, t49, t50, t51, t52, t1020, t1022, t1062, t1117, t1115, t1127, t1124, t1108, t1138, t1012, t1089, t1003, t1144]
theorem ok82 : t82.Ok G defs := ⟨⟨rfl, rfl, rfl, by decide +kernel, rfl, by decide +kernel, by decide +kernel⟩, ⟨f_blocks_in_87b1, rfl, rfl, rfl, by decide +kernel⟩, fun _ _ _ _ _ _ us hl => match us, hl with | [_], _ => rfl⟩
theorem ok83 : t83.Ok G defs := ⟨⟨rfl, rfl, rfl, by decide +kernel, rfl, by decide +kernel, by decide +kernel⟩, ⟨f_rows_within_fee7, rfl, rfl, rfl, by decide +kernel⟩, fun _ _ _ _ _ _ us hl => match us, hl with | [_], _ => rfl⟩
theorem ok84 : t84.Ok G defs := ⟨⟨rfl, rfl, rfl, by decide +kernel, rfl, by decide +kernel, by decide +kernel⟩, ⟨f_rows_in_c768, rfl, rfl, rfl, by decide +kernel⟩, fun _ _ _ _ _ _ us hl => match us, hl with | [_], _ => rfl⟩
theorem ok45 : t45.Ok G defs := ⟨⟨rfl, rfl, rfl, by decide +kernel, rfl, by decide +kernel, by decide +kernel⟩, ⟨f_names_in_ed56, rfl, rfl, rfl, by decide +kernel⟩, fun _ _ _ _ _ _ us hl => match us, hl with | [_], _ => rfl⟩
theorem ok46 : t46.Ok G defs := ⟨⟨rfl, rfl, rfl, by decide +kernel, rfl, by decide +kernel, by decide +kernel⟩, ⟨f_names_asked_dfaa, rfl, rfl, rfl, by decide +kernel⟩, fun _ _ _ _ _ _ us hl => match us, hl with | [_], _ => rfl⟩
theorem ok47 : t47.Ok G defs := ⟨⟨rfl, rfl, rfl, by decide +kernel, rfl, by decide +kernel, by decide +kernel⟩, ⟨f_is_out_of_range_1093, rfl, rfl, rfl, by decide +kernel⟩, fun _ _ _ _ _ _ us hl => match us, hl with | [_], _ => rfl⟩
theorem ok48 : t48.Ok G defs := ⟨⟨rfl, rfl, rfl, by decide +kernel, rfl, by decide +kernel, by decide +kernel⟩, ⟨f_tells_in_6c45, rfl, rfl, rfl, by decide +kernel⟩, fun _ _ _ _ _ _ us hl => match us, hl with | [_], _ => rfl⟩
theorem ok49 : t49.Ok G defs := ⟨⟨rfl, rfl, rfl, by decide +kernel, rfl, by decide +kernel, by decide +kernel⟩, ⟨f_amiss_26b4, rfl, rfl, rfl, by decide +kernel⟩, fun _ _ _ _ _ _ us hl => match us, hl with | [_, _], _ => rfl⟩
theorem ok50 : t50.Ok G defs := ⟨⟨rfl, rfl, rfl, by decide +kernel, rfl, by decide +kernel, by decide +kernel⟩, ⟨f_look_rows_1b34, rfl, rfl, rfl, by decide +kernel⟩, fun _ _ _ _ _ _ us hl => match us, hl with | [_, _, _], _ => rfl⟩
theorem ok51 : t51.Ok G defs := ⟨⟨rfl, rfl, rfl, by decide +kernel, rfl, by decide +kernel, by decide +kernel⟩, ⟨f_look_behind_0449, rfl, rfl, rfl, by decide +kernel⟩, fun _ _ _ _ _ _ us hl => match us, hl with | [_, _, _], _ => rfl⟩
theorem ok52 : t52.Ok G defs := ⟨⟨rfl, rfl, rfl, by decide +kernel, rfl, by decide +kernel, by decide +kernel⟩, ⟨f_look_f18e, rfl, rfl, rfl, by decide +kernel⟩, fun _ _ _ _ _ _ us hl => match us, hl with | [_], _ => rfl⟩
theorem ok1020 : t1020.Ok G defs := ⟨⟨rfl, rfl, rfl, by decide +kernel, rfl, by decide +kernel, by decide +kernel⟩, ⟨l_deal_6082, rfl, rfl, rfl, by decide +kernel⟩, fun _ _ _ _ _ _ us hl => match us, hl with | [_, _], _ => rfl⟩
theorem ok1022 : t1022.Ok G defs := ⟨⟨rfl, rfl, rfl, by decide +kernel, rfl, by decide +kernel, by decide +kernel⟩, ⟨l_draw_ade5, rfl, rfl, rfl, by decide +kernel⟩, fun _ _ _ _ _ _ us hl => match us, hl with | [_, _], _ => rfl⟩
theorem ok1062 : t1062.Ok G defs := ⟨⟨rfl, rfl, rfl, by decide +kernel, rfl, by decide +kernel, by decide +kernel⟩, ⟨l_names_f643, rfl, rfl, rfl, by decide +kernel⟩, fun _ _ _ _ _ _ us hl => match us, hl with | [_, _], _ => rfl⟩
theorem ok1117 : t1117.Ok G defs := ⟨⟨rfl, rfl, rfl, by decide +kernel, rfl, by decide +kernel, by decide +kernel⟩, ⟨l_sum_f287, rfl, rfl, rfl, by decide +kernel⟩, fun _ _ _ _ _ _ us hl => match us, hl with | [_, _], _ => rfl⟩
theorem ok1115 : t1115.Ok G defs := ⟨⟨rfl, rfl, rfl, by decide +kernel, rfl, by decide +kernel, by decide +kernel⟩, ⟨l_steep_3265, rfl, rfl, rfl, by decide +kernel⟩, fun _ _ _ _ _ _ us hl => match us, hl with | [_, _], _ => rfl⟩
theorem ok1127 : t1127.Ok G defs := ⟨⟨rfl, rfl, rfl, by decide +kernel, rfl, by decide +kernel, by decide +kernel⟩, ⟨l_throw_e024, rfl, rfl, rfl, by decide +kernel⟩, fun _ _ _ _ _ _ us hl => match us, hl with | [_, _, _], _ => rfl⟩
theorem ok1124 : t1124.Ok G defs := ⟨⟨rfl, rfl, rfl, by decide +kernel, rfl, by decide +kernel, by decide +kernel⟩, ⟨l_term_77e0, rfl, rfl, rfl, by decide +kernel⟩, fun _ _ _ _ _ _ us hl => match us, hl with | [_, _, _, _], _ => rfl⟩
theorem ok1108 : t1108.Ok G defs := ⟨⟨rfl, rfl, rfl, by decide +kernel, rfl, by decide +kernel, by decide +kernel⟩, ⟨l_setting_a142, rfl, rfl, rfl, by decide +kernel⟩, fun _ _ _ _ _ _ us hl => match us, hl with | [_, _, _, _], _ => rfl⟩
theorem ok1138 : t1138.Ok G defs := ⟨⟨rfl, rfl, rfl, by decide +kernel, rfl, by decide +kernel, by decide +kernel⟩, ⟨l_when_2570, rfl, rfl, rfl, by decide +kernel⟩, fun _ _ _ _ _ _ us hl => match us, hl with | [_, _, _, _, _], _ => rfl⟩
theorem ok1012 : t1012.Ok G defs := ⟨⟨rfl, rfl, rfl, by decide +kernel, rfl, by decide +kernel, by decide +kernel⟩, ⟨l_block_57fe, rfl, rfl, rfl, by decide +kernel⟩, fun _ _ _ _ _ _ us hl => match us, hl with | [_, _, _, _, _], _ => rfl⟩
theorem ok1089 : t1089.Ok G defs := ⟨⟨rfl, rfl, rfl, by decide +kernel, rfl, by decide +kernel, by decide +kernel⟩, ⟨l_program_293e, rfl, rfl, rfl, by decide +kernel⟩, fun _ _ _ _ _ _ us hl => match us, hl with | [_, _], _ => rfl⟩
theorem ok1003 : t1003.Ok G defs := ⟨⟨rfl, rfl, rfl, by decide +kernel, rfl, by decide +kernel, by decide +kernel⟩, ⟨l_alike_ea0c, rfl, rfl, rfl, by decide +kernel⟩, fun _ _ _ _ _ _ us hl => match us, hl with | [_, _], _ => rfl⟩
theorem ok1144 : t1144.Ok G defs := ⟨⟨rfl, rfl, rfl, by decide +kernel, rfl, by decide +kernel, by decide +kernel⟩, ⟨f_law_35d4, rfl, rfl, rfl, by decide +kernel⟩, fun _ _ _ _ _ _ us hl => match us, hl with | [_], _ => rfl⟩
theorem okAll : ∀ d ∈ dts, d.Ok G defs := List.forall_mem_cons.mpr ⟨ok82, List.forall_mem_cons.mpr ⟨ok83, List.forall_mem_cons.mpr ⟨ok84, List.forall_mem_cons.mpr ⟨ok45, List.forall_mem_cons.mpr ⟨ok46, List.forall_mem_cons.mpr ⟨ok47, List.forall_mem_cons.mpr ⟨ok48, List.forall_mem_cons.mpr ⟨ok49, List.forall_mem_cons.mpr ⟨ok50, List.forall_mem_cons.mpr ⟨ok51, List.forall_mem_cons.mpr ⟨ok52, List.forall_mem_cons.mpr ⟨ok1020, List.forall_mem_cons.mpr ⟨ok1022, List.forall_mem_cons.mpr ⟨ok1062, List.forall_mem_cons.mpr ⟨ok1117, List.forall_mem_cons.mpr ⟨ok1115, List.forall_mem_cons.mpr ⟨ok1127, List.forall_mem_cons.mpr ⟨ok1124, List.forall_mem_cons.mpr ⟨ok1108, List.forall_mem_cons.mpr ⟨ok1138, List.forall_mem_cons.mpr ⟨ok1012, List.forall_mem_cons.mpr ⟨ok1089, List.forall_mem_cons.mpr ⟨ok1003, List.forall_mem_cons.mpr ⟨ok1144, fun _ h => nomatch h⟩⟩⟩⟩⟩⟩⟩⟩⟩⟩⟩⟩⟩⟩⟩⟩⟩⟩⟩⟩⟩⟩⟩⟩
theorem hfn : ∀ f x, G.fn f = some x → ∃ d ∈ dts, d.f = f ∧ d.name = x ∧ d.Ok G defs := hfn_of (l := fnL) rfl (fun _ => rfl) okAll
def loose0 : List PySem.Str := ["__name__", "ThrowError", "NoProgram", "blocks_in", "rows_within", "rows_in", "MOST_KINDS", "names_in", "names_asked", "is_out_of_range", "tells_in", "amiss", "look_rows", "look_behind", "look", "_law_deal", "_law_draw", "_law_names", "_law_sum", "_law_steep", "_law_throw", "_law_term", "_law_setting", "_law_when", "_law_block", "_law_program", "_law_alike"]
def loose : List PySem.Str := loose0
abbrev Rw : PySem.W.OpenRow := PySem.W.OpenLaw.row PySem.Challenge.rw_pairedthrows_k17_programs_let_by
abbrev hk : PySem.W.Hook := He.hookX 4 (faOf G dts) (fnOf dts) [] [] (exOf G)
def ob (s : PySem.W.SharedT) : He.AlX := He.obsX 4 (faOf G dts) (fnOf dts) [] [] (exOf G) (HandSHeadRun.getT s)
theorem ob_eq (s : PySem.W.SharedT) : ob s = hk.obs s.abs := He.obsX_eq (HandSHeadRun.getT_eq s)
theorem run (w : World) : HandSHeadRun.RunEq Rw (PySem.W.view Rw.prog [30]) hk ob 4000 loose w := by
  intro os
  kernel_rfl

theorem holds (plain : ∀ ns : List Int, ns.length ≤ 63 → (∀ z ∈ ns, Builtin.Int.intBits z ≤ 1048576) → Phi G defs 80 1144 [.fl (ns.map D.int)] (fun _ => none) (fun d _ => d = .bl true) x0) : PySem.Challenge.rw_pairedthrows_k17_programs_let_by.Holds := by
  w_on; o_law
  refine HandSHeadRun.head_any (r := PySem.W.OpenLaw.row PySem.Challenge.rw_pairedthrows_k17_programs_let_by) (q := PySem.W.view (PySem.W.OpenLaw.row PySem.Challenge.rw_pairedthrows_k17_programs_let_by).prog [30]) (H := hk) (ob := ob) (M := 4000) (loose := loose) (d := HandSHeadRun.topDef (PySem.W.OpenLaw.row PySem.Challenge.rw_pairedthrows_k17_programs_let_by).prog 30) (kwd := []) ob_eq
    (by kernel_rfl) (fun s => by kernel_rfl) run (by kernel_rfl) (by kernel_rfl) (by kernel_rfl) (by rfl) (by first | assumption | decide +kernel) (by decide +kernel) ⟨rfl, rfl, rfl, rfl, rfl, by decide +kernel⟩ ?hw ?hc
  case hw => w_witness2
  case hc =>
    exact law_end (n := 63) (k := 80) (fl := 1144) (x := "_law_script") hfn (by kernel_rfl) (by decide +kernel) rfl (by decide) (by kernel_rfl) ⟨rfl, by decide, by decide⟩ plain
theorem phi_of {k f : Nat} {d : Fd} {ds : List D} {S : Sto} {Q : QD} {X : XD} (h : defs f = some d) (hl : ds.length = d.np) (hw : wc G (Phi G defs k) d.body (endsD Q X) (startD d.ns ds) S) : Phi G defs (k + 1) f ds S Q X := by
  unfold Phi
  rw [h]
  exact ⟨hl, hw⟩
abbrev Ph (k : Nat) : Call := Phi G defs k
theorem v_draw : ∀ k, 1 ≤ k → DrawOk (Ph k)
  | k + 1, _ => fun a l m S Q X h h1 h2 h3 => phi_of (d := l_draw_ade5) rfl rfl (draw_ok h h1 h2 h3)
theorem v_sum : ∀ k, 2 ≤ k → SumFn (Ph k)
  | k + 1, hk => fun a l m S Q X h h1 h2 h3 => phi_of (d := l_sum_f287) rfl rfl (sum_ok (v_draw k (by omega)) h h1 h2 h3)
theorem v_steep : ∀ k, 2 ≤ k → SteepFn (Ph k)
  | k + 1, hk => fun a l m S Q X h h1 => phi_of (d := l_steep_3265) rfl rfl (steep_ok (v_draw k (by omega)) h h1)
theorem v_throw : ∀ k, 3 ≤ k → ThrowFn (Ph k)
  | k + 1, hk => fun a l m x S Q X h h1 h2 h3 => phi_of (d := l_throw_e024) rfl rfl (throw_ok (v_draw k (by omega)) (v_sum k (by omega)) (v_steep k (by omega)) h h1 h2 h3)
theorem v_term : ∀ n k, n + 2 ≤ k → TermFn n (Ph k)
  | n, k + 1, hk => fun a l kn ws room deep S Q X h h1 h2 h3 h4 h5 h6 => phi_of (d := l_term_77e0) rfl rfl
    (term_ok (n := n) (v_draw k (by omega)) (fun m hm => by subst hm; exact v_term m k (by omega)) h h1 h2 h3 h4 h5 h6)
theorem v_names : ∀ k, 2 ≤ k → NamesFn (Ph k)
  | k + 1, hk => fun a l m S Q X h h1 h2 h3 => phi_of (d := l_names_f643) rfl rfl (names_ok (v_draw k (by omega)) h h1 h2 h3)
theorem v_setting : ∀ k, 9 ≤ k → SettingFn (Ph k)
  | k + 1, hk => fun a l c nr kn m ws ks x S Q X h h1 h2 h3 h4 => phi_of (d := l_setting_a142) rfl rfl (setting_ok (v_draw k (by omega)) (v_throw k (by omega)) (v_term 6 k (by omega)) h h1 h2 h3 h4)
theorem v_block3 : ∀ k, 10 ≤ k → BlockFn 3 (Ph k)
  | k + 1, hk => fun a l c nr kn m ws ks tl S Q X h h1 h2 => phi_of (d := l_block_57fe) rfl rfl
    (block_ok (d := 3) (v_draw k (by omega)) (v_term 6 k (by omega)) (v_setting k (by omega)) (fun h => absurd h (by decide)) (fun h => absurd h (by decide)) (by decide) h h1 h2)
theorem v_when {d : Nat} (hd : d < 3) (j : Nat) (hj : 9 ≤ j) (hb : ∀ k, j ≤ k → BlockFn (d + 1) (Ph k)) : ∀ k, j + 1 ≤ k → WhenFn d (Ph k)
  | k + 1, hk => fun a l c nr kn m ws ks tl S Q X h h1 h2 => phi_of (d := l_when_2570) rfl rfl (when_ok (v_draw k (by omega)) (v_term 6 k (by omega)) (hb k (by omega)) hd h h1 h2)
theorem v_blockd {d : Nat} (hd : d < 3) (j : Nat) (hj : 9 ≤ j) (hb : ∀ k, j ≤ k → BlockFn (d + 1) (Ph k)) : ∀ k, j + 2 ≤ k → BlockFn d (Ph k)
  | k + 1, hk => fun a l c nr kn m ws ks tl S Q X h h1 h2 => phi_of (d := l_block_57fe) rfl rfl
    (block_ok (d := d) (v_draw k (by omega)) (v_term 6 k (by omega)) (v_setting k (by omega)) (fun _ => v_when hd j hj hb k (by omega)) (fun _ => hb k (by omega)) (by omega) h h1 h2)
theorem v_block : ∀ k, 16 ≤ k → BlockFn 0 (Ph k) :=
  v_blockd (by decide) 14 (by decide) (v_blockd (by decide) 12 (by decide) (v_blockd (by decide) 10 (by decide) v_block3))
theorem v_program : ∀ k, 17 ≤ k → ProgramFn (Ph k)
  | k + 1, hk => fun a l most S Q X h h1 => phi_of (d := l_program_293e) rfl rfl (program_ok (v_draw k (by omega)) (v_names k (by omega)) (v_block k (by omega)) h h1)
theorem v_deal : ∀ k, 1 ≤ k → DealFn (Ph k)
  | k + 1, hk => fun ns b S Q X h h1 h2 h3 => phi_of (d := l_deal_6082) rfl rfl (deal_ok h h1 h2 h3)
theorem v_blk : ∀ k, 1 ≤ k → BlkFn (Ph k)
  | k + 1, hk => ⟨fun t x y S Q X h => phi_of (d := f_blocks_in_87b1) rfl rfl (blk_wh h), fun n x S Q X h => phi_of (d := f_blocks_in_87b1) rfl rfl (blk_ti h), fun w xs S Q X h1 h2 h => phi_of (d := f_blocks_in_87b1) rfl rfl (blk_ot h1 h2 h)⟩
theorem v_rows : ∀ n k, n + 2 ≤ k → RowsFn n (Ph k)
  | n, k + 1, hk => fun r S Q X h h1 h2 => phi_of (d := f_rows_within_fee7) rfl rfl (rows_ok (n := n) (v_blk k (by omega)) (fun m hm => by subst hm; exact v_rows m k (by omega)) h h1 h2)
theorem v_rowsin : ∀ k, 7 ≤ k → RowsInFn (Ph k)
  | k + 1, hk => fun ks r S Q X h h1 h2 => phi_of (d := f_rows_in_c768) rfl rfl (rows_in_ok (v_rows 4 k (by omega)) h h1 h2)
theorem v_namesin : ∀ n k, n ≤ 20 → n + 1 ≤ k → NamesInFn n (Ph k)
  | n, k + 1, h20, hk => fun t S Q X h h1 => phi_of (d := f_names_in_ed56) rfl rfl (names_in_ok (n := n) h20 (fun m hm => by subst hm; exact v_namesin m k (by omega) (by omega)) h h1)
theorem v_ask : ∀ k, 8 ≤ k → AskFn (Ph k)
  | k + 1, hk => fun one d m ks S Q X h h1 h2 h3 => phi_of (d := f_names_asked_dfaa) rfl rfl (ask_ok (v_namesin 6 k (by decide) (by omega)) h h1 h2 h3)
theorem v_range : ∀ k, 1 ≤ k → RangeFn (Ph k)
  | k + 1, hk => fun one d m ks S Q X h h1 h2 h3 => phi_of (d := f_is_out_of_range_1093) rfl rfl (range_ok h h1 h2 h3)
theorem v_tells : ∀ n k, n + 1 ≤ k → TellsFn n (Ph k)
  | n, k + 1, hk => fun r m ks S Q X h h1 h2 => phi_of (d := f_tells_in_6c45) rfl rfl (tells_in_ok (n := n) (fun m hm => by subst hm; exact v_tells m k (by omega)) h h1 h2)
theorem v_amiss : ∀ k, 9 ≤ k → AmissFn (Ph k)
  | k + 1, hk => fun one d m ks kn S Q X h h1 h2 h3 h4 h5 => phi_of (d := f_amiss_26b4) rfl rfl (amiss_ok (v_range k (by omega)) (v_ask k (by omega)) (v_tells 4 k (by omega)) h h1 h2 h3 h4 h5)
theorem v_look : ∀ n, n ≤ 5 → (∀ k, 11 + 2 * n ≤ k → LookRowsFn n (Ph k)) ∧ ∀ k, 10 + 2 * n ≤ k → LookBehindFn n (Ph k) := by
  intro n
  induction n with
  | zero =>
    intro hn
    have hb : ∀ k, 10 + 2 * 0 ≤ k → LookBehindFn 0 (Ph k) := by
      intro k hk
      obtain ⟨k, rfl⟩ : ∃ j, k = j + 1 := ⟨k - 1, by omega⟩
      exact fun one d m ks kn at' S Q X h h1 h2 h3 h4 h5 h6 => phi_of (d := f_look_behind_0449) rfl rfl (look_behind_ok (n := 0) (v_blk k (by omega)) (fun m hm => by omega) h h1 h2 h3 h4 h5 h6)
    refine ⟨fun k hk => ?_, hb⟩
    obtain ⟨k, rfl⟩ : ∃ j, k = j + 1 := ⟨k - 1, by omega⟩
    exact fun r m ks kn at' S Q X h h1 h2 h3 h4 => phi_of (d := f_look_rows_1b34) rfl rfl (look_rows_ok (n := 0) (by omega) (v_amiss k (by omega)) (hb k (by omega)) h h1 h2 h3 h4)
  | succ n ih =>
    intro hn
    have ihr := (ih (by omega)).1
    have hb : ∀ k, 10 + 2 * (n + 1) ≤ k → LookBehindFn (n + 1) (Ph k) := by
      intro k hk
      obtain ⟨k, rfl⟩ : ∃ j, k = j + 1 := ⟨k - 1, by omega⟩
      exact fun one d m ks kn at' S Q X h h1 h2 h3 h4 h5 h6 => phi_of (d := f_look_behind_0449) rfl rfl
        (look_behind_ok (n := n + 1) (v_blk k (by omega)) (fun m hm => by obtain rfl : m = n := by omega
                                                                          exact ihr k (by omega)) h h1 h2 h3 h4 h5 h6)
    refine ⟨fun k hk => ?_, hb⟩
    obtain ⟨k, rfl⟩ : ∃ j, k = j + 1 := ⟨k - 1, by omega⟩
    exact fun r m ks kn at' S Q X h h1 h2 h3 h4 => phi_of (d := f_look_rows_1b34) rfl rfl (look_rows_ok (n := n + 1) (by omega) (v_amiss k (by omega)) (hb k (by omega)) h h1 h2 h3 h4)
theorem v_lookf : ∀ k, 20 ≤ k → LookFn (Ph k)
  | k + 1, hk => fun ks r S Q X h h1 => phi_of (d := f_look_f18e) rfl rfl (look_ok (by kernel_rfl) ((v_look 4 (by decide)).1 k (by omega)) (v_rowsin k (by omega)) h h1)
theorem v_alike : ∀ k, 4 ≤ k → AlikeFn (Ph k)
  | k + 1, hk => fun a l ks r S Q X h h1 h2 => phi_of (d := l_alike_ea0c) rfl rfl (alike_ok (v_draw k (by omega)) (v_throw k (by omega)) (v_names k (by omega)) h h1 h2)
theorem plain : ∀ ns : List Int, ns.length ≤ 63 → (∀ z ∈ ns, Builtin.Int.intBits z ≤ 1048576) → Phi G defs 80 1144 [.fl (ns.map D.int)] (fun _ => none) (fun d _ => d = .bl true) x0 := fun ns hn _ =>
  phi_of (k := 79) (d := f_law_35d4) rfl rfl (law17_ok (v_deal 79 (by decide)) (v_program 79 (by decide)) (v_alike 79 (by decide)) (v_lookf 79 (by decide)) hn)
end K17

theorem PySem.Challenge.cw_pairedthrows_k17_programs_let_by_holds : PySem.Challenge.rw_pairedthrows_k17_programs_let_by.Holds := by
  exact K17.holds K17.plain
